import PyProof.Rows.All
import Wide.All
import OpenK.AllK
import Wide.FinOn
import HandS.ForMost
import HandS.ForExc
import HandS.Wide
import HandS.TupAny
import HandS.FStr
import HandS.Defaults
import HandS.CallSlots
import HandS.Walk
import HandS.HeadHook1
import HandS.HeadHook2
import KE.KSuper
import KE.KExcSuper
import HandS.Exc
import HandS.ExcInit
import HandS.ExcSuper
import HandS.ExcIs
import KE.KIsAll
import HandS.ExcField
import HandS.TryMany
import HandS.Words
import HandS.HeadHook3
import HandS.HeadHook4
import HandS.HeadNt
import HandS.Style
import HandS.RaiseMore
import KE.KDictZip
import HandS.Zip
import HandS.Zip0
import HandS.Dict
import HandS.Comp
import HandS.IsInst
import HandS.OwnEq
import KE.KFmtOwn
import KE.KLam
import HandS.Ends
import HandS.Lambda
import HandS.EndBits
import HandS.EndTab
import HandS.HeadWalk
import PyProof.ReprRoads
import KE.KRevSl
import KE.KOpsOwn
import HandS.Strs
import HandS.Conv
import HandS.SortInts
import HandS.DictComp
import HandS.Set
import HandS.SetFor
import HandS.ClsMeth
import HandS.Text
import PyProof.Rows.StrRev
import KE.GoesMore
import PyProof.StrLawsChain
import KE.KStateDown
import HandS.SetKeys
import HandS.Head0
import HandS.Head1
import HandS.Head2
import HandS.HeadEnd
import PySem.Challenge.RW_edgejumps_k03_sheets_cut_and_joined
set_option Elab.async false
set_option linter.all false
set_option maxRecDepth 100000
set_option maxHeartbeats 0
/-! Readings that reduce by themselves: the values' forms are looked at by match. -/
namespace Eb
open PySem PySem.Spec PyProof.Rows L2
/-! ### weaker readings -/
section
variable {X : Cx}
theorem PE.imp {e : Expr} {t t' : TE} (h : PE X e t) (k : ∀ σ H Q, t' σ H Q → t σ H Q) : PE X e t' := ⟨fun pins s σ H Q I q => h.run pins s σ H Q I (k σ H Q q)⟩
theorem PT.imp {e : Expr} {t t' : TT} (h : PT X e t) (k : ∀ σ H Q, t' σ H Q → t σ H Q) : PT X e t' := ⟨fun pins s σ H Q I q => h.run pins s σ H Q I (k σ H Q q)⟩
theorem PS.imp {e : Stmt} {t t' : TS} (h : PS X e t) (k : ∀ D σ H, t' D σ H → t D σ H) : PS X e t' := ⟨fun pins s σ H D I q => h.run pins s σ H D I (k D σ H q)⟩
theorem OpR.imp {f : Value → Value → Sem Value} {r r' : R2} (h : OpR X f r) (k : ∀ x y H Q, r' x y H Q → r x y H Q) : OpR X f r' := fun pins s σ H x y v u Q I rx ry q => h pins s σ H x y v u Q I rx ry (k x y H Q q)
theorem CallR.imp {f : Value} {r r' : List V → Hp → VK → Prop} (h : CallR X f r) (k : ∀ xs H Q, r' xs H Q → r xs H Q) : CallR X f r' := fun pins s σ H xs us Q I rx q => h pins s σ H xs us Q I rx (k xs H Q q)
theorem MtR.imp {id : String} {r r' : V → List V → Hp → VK → Prop} (h : MtR X id r) (k : ∀ x xs H Q, r' x xs H Q → r x xs H Q) : MtR X id r' := fun pins s σ H x xs v us Q I rx rxs q => h pins s σ H x xs v us Q I rx rxs (k x xs H Q q)
theorem IxR.imp {r r' : R2} (h : IxR X r) (k : ∀ x y H Q, r' x y H Q → r x y H Q) : IxR X r' := fun value slice pins s σ H x y v u Q I rx ry q hs => h value slice pins s σ H x y v u Q I rx ry (k x y H Q q) hs
end
/-! ### names, branches -/
def yVar (i : Nat) : TE := fun σ H Q => match σ[i]? with
  | some (some v) => Q v H
  | _ => False
/-- a branch; whnf stops here -/
@[irreducible] def yBr (b : Bool) (A B : Prop) : Prop := if b = true then A else B
theorem yBr_def {b : Bool} {A B : Prop} : yBr b A B = (if b = true then A else B) := by unfold yBr; rfl
theorem br {b : Bool} {A B : Prop} (h1 : b = true → A) (h2 : b = false → B) : yBr b A B := by
  rw [yBr_def]
  cases b with
  | true => exact h1 rfl
  | false => exact h2 rfl
theorem brT {b : Bool} {A B : Prop} (e : b = true) (h : A) : yBr b A B := br (fun _ => h) fun z => by rw [e] at z; cases z
theorem brF {b : Bool} {A B : Prop} (e : b = false) (h : B) : yBr b A B := br (fun z => by rw [e] at z; cases z) fun _ => h
/-- by a proposition -/
theorem brD {p : Prop} [Decidable p] {A B : Prop} (h1 : p → A) (h2 : ¬ p → B) : yBr (decide p) A B := br (fun z => h1 (of_decide_eq_true z)) fun z => h2 (of_decide_eq_false z)
theorem brN {p : Prop} [Decidable p] {A B : Prop} (h1 : ¬ p → A) (h2 : p → B) : yBr (!decide p) A B := br
  (fun z => h1 (by simpa using z)) fun z => h2 (by simpa using z)
theorem brDT {p : Prop} [Decidable p] {A B : Prop} (e : p) (h : A) : yBr (decide p) A B := brT (decide_eq_true e) h
theorem brDF {p : Prop} [Decidable p] {A B : Prop} (e : ¬ p) (h : B) : yBr (decide p) A B := brF (decide_eq_false e) h
/-! ### operators by values -/
def zAdd : R2 := fun x y H Q => match x, y with
  | .int i, .int j => Q (.int (i + j)) H
  | .str a, .str b => a.length + b.length ≤ sizeLine ∧ Q (.str (a ++ b)) H
  | _, _ => False
def zSub : R2 := fun x y H Q => match x, y with
  | .int i, .int j => Q (.int (i - j)) H
  | _, _ => False
def zMul : R2 := fun x y H Q => match x, y with
  | .int i, .int j => CMul i j ∧ Q (.int (i * j)) H
  | _, _ => False
def zDiv : R2 := fun x y H Q => match x, y with
  | .int i, .int j => CDivW i j ∧ Q (.int (i / j)) H
  | _, _ => False
def zMod : R2 := fun x y H Q => match x, y with
  | .int i, .int j => 0 < j ∧ Q (.int (i % j)) H
  | _, _ => False
def zPow : R2 := fun x y H Q => match x, y with
  | .int i, .int j => CPow i j ∧ Q (.int (i ^ j.toNat)) H
  | _, _ => False
def zShl : R2 := fun x y H Q => match x, y with
  | .int i, .int j => CPow i j ∧ Q (.int (i * 2 ^ j.toNat)) H
  | _, _ => False
def zShr : R2 := fun x y H Q => match x, y with
  | .int i, .int j => 0 ≤ j ∧ Q (.int (i / 2 ^ j.toNat)) H
  | _, _ => False
def zAnd : R2 := fun x y H Q => match x, y with
  | .int i, .int j => Q (.int (Builtin.bitAnd i j)) H
  | _, _ => False
/-- xs + ys of lists -/
def zCatL : R2 := fun x y H Q => match x, y with
  | .ref a, .ref b => ∃ xs zs, H a = some (.lst xs) ∧ H b = some (.lst zs) ∧ xs.length + zs.length ≤ sizeLine ∧ ∀ p, H p = none → Q (.ref p) (upd H p (.lst (xs ++ zs)))
  | _, _ => False
/-- t + u of tuples -/
def zCatT (K : PySem.W.Frag) : R2 := fun x y H Q => match x, y with
  | .ref a, .ref b => ∃ xs ys, SqT K H a xs ∧ SqT K H b ys ∧ xs.length + ys.length ≤ sizeLine ∧
    (xs = [] → Q (.ref b) H) ∧ (xs ≠ [] → ys = [] → Q (.ref a) H) ∧ (xs ≠ [] → ys ≠ [] → ∀ p, H p = none → Q (.ref p) (upd H p (.tup (xs ++ ys))))
  | _, _ => False
/-- xs * k -/
def zRepL : R2 := fun x y H Q => match x, y with
  | .ref l, .int k => ∃ xs, H l = some (.lst xs) ∧ -(2 ^ 63) ≤ k ∧ k < 2 ^ 63 ∧ xs.length * k.toNat ≤ sizeLine ∧ ∀ p, H p = none → Q (.ref p) (upd H p (.lst (List.replicate k.toNat xs).flatten))
  | _, _ => False
/-- == of scalars -/
def sEq : V → V → Option Bool
  | .int i, .int j => some (decide (i = j))
  | .str i, .str j => some (decide (i = j))
  | .bl i, .bl j => some (decide (i = j))
  | .non, .non => some true
  | .non, .int _ => some false
  | .int _, .non => some false
  | .non, .bl _ => some false
  | .bl _, .non => some false
  | .non, .str _ => some false
  | .str _, .non => some false
  | .int _, .str _ => some false
  | .str _, .int _ => some false
  | .bl _, .str _ => some false
  | .str _, .bl _ => some false
  | _, _ => none
theorem sEq_ok {x y : V} {b : Bool} (h : sEq x y = some b) : scal x y = true ∧ decide (x = y) = b := by
  cases x <;> cases y <;> simp only [sEq, Option.some.injEq, reduceCtorEq] at h <;> subst h <;> refine ⟨rfl, ?_⟩ <;> simp
def zEq : R2 := fun x y H Q => match sEq x y with
  | some b => Q (.bl b) H
  | none => False
def zNe : R2 := fun x y H Q => match sEq x y with
  | some b => Q (.bl (!b)) H
  | none => False
/-- == of data -/
def zEqD (K : PySem.W.Frag) : R2 := fun x y H Q => ∃ d e, Dp K H x d ∧ Dp K H y e ∧ SeqAt.shaped d = true ∧ SeqAt.shaped e = true ∧ Q (.bl (PyData.eqv d e)) H
def zNeD (K : PySem.W.Frag) : R2 := fun x y H Q => ∃ d e, Dp K H x d ∧ Dp K H y e ∧ SeqAt.shaped d = true ∧ SeqAt.shaped e = true ∧ Q (.bl (!PyData.eqv d e)) H
def zLt : R2 := fun x y H Q => match x, y with
  | .int i, .int j => Q (.bl (decide (i < j))) H
  | _, _ => False
def zLe : R2 := fun x y H Q => match x, y with
  | .int i, .int j => Q (.bl (decide (i ≤ j))) H
  | _, _ => False
def zGt : R2 := fun x y H Q => match x, y with
  | .int i, .int j => Q (.bl (decide (j < i))) H
  | _, _ => False
def zGe : R2 := fun x y H Q => match x, y with
  | .int i, .int j => Q (.bl (decide (j ≤ i))) H
  | _, _ => False
/-- x in xs: a list or tuple of flat things; a sign in a text -/
def zIn (K : PySem.W.Frag) (neg : Bool) : R2 := fun x y H Q => match y with
  | .ref p => ∃ xs, (SqL K H p xs ∨ SqT K H p xs) ∧ flatV x = true ∧ xs.all flatV = true ∧ Q (.bl (if neg then !inV x xs else inV x xs)) H
  | .str z => (match x with
    | .str c => ∃ n : Nat, c = ⟨#[n]⟩ ∧ Q (.bl (if neg then !decide (n ∈ z.cps.toList) else decide (n ∈ z.cps.toList))) H
    | _ => False)
  | _ => False
def zIs : R2 := fun x y H Q => match y with
  | .non => Q (.bl (match x with | .non => true | _ => false)) H
  | _ => False
def zIsNot : R2 := fun x y H Q => match y with
  | .non => Q (.bl (match x with | .non => false | _ => true)) H
  | _ => False
def zNeg : V → Hp → VK → Prop := fun x H Q => match x with
  | .int i => Q (.int (-i)) H
  | _ => False
section
variable {X : Cx}
theorem i2 {r : R2} {P : V → V → Hp → VK → Prop} (h : ∀ i j H Q, r (.int i) (.int j) H Q → P (.int i) (.int j) H Q) (hn : ∀ x y H Q, r x y H Q → ∃ i j, x = .int i ∧ y = .int j) : ∀ x y H Q, r x y H Q → P x y H Q := fun x y H Q q => by
  obtain ⟨i, j, rfl, rfl⟩ := hn x y H Q q
  exact h i j H Q q
theorem op_zSub : OpR X (binaryOp .Sub) zSub := OpR.imp op_sub fun x y H Q q => by
  cases x <;> cases y <;> first | exact q.elim | exact ⟨_, _, rfl, rfl, q⟩
theorem op_zMul : OpR X (binaryOp .Mult) zMul := OpR.imp op_mul fun x y H Q q => by
  cases x <;> cases y <;> first | exact q.elim | exact ⟨_, _, rfl, rfl, q.1, q.2⟩
theorem op_zDiv : OpR X (binaryOp .FloorDiv) zDiv := OpR.imp op_fdivW fun x y H Q q => by
  cases x <;> cases y <;> first | exact q.elim | exact ⟨_, _, rfl, rfl, q.1, q.2⟩
theorem op_zMod : OpR X (binaryOp .Mod) zMod := OpR.imp op_mod fun x y H Q q => by
  cases x <;> cases y <;> first | exact q.elim | exact ⟨_, _, rfl, rfl, q.1, q.2⟩
theorem op_zPow : OpR X (binaryOp .Pow) zPow := OpR.imp op_pow fun x y H Q q => by
  cases x <;> cases y <;> first | exact q.elim | exact ⟨_, _, rfl, rfl, q.1, q.2⟩
theorem op_zShl : OpR X (binaryOp .LShift) zShl := OpR.imp op_shl fun x y H Q q => by
  cases x <;> cases y <;> first | exact q.elim | exact ⟨_, _, rfl, rfl, q.1, q.2⟩
theorem op_zShr : OpR X (binaryOp .RShift) zShr := OpR.imp op_shr fun x y H Q q => by
  cases x <;> cases y <;> first | exact q.elim | exact ⟨_, _, rfl, rfl, q.1, q.2⟩
theorem op_zAnd : OpR X (binaryOp .BitAnd) zAnd := OpR.imp op_and fun x y H Q q => by
  cases x <;> cases y <;> first | exact q.elim | exact ⟨_, _, rfl, rfl, q⟩
theorem op_zAdd : OpR X (binaryOp .Add) zAdd := OpR.imp (OpR.or op_add op_add_str) fun x y H Q q => by
  cases x <;> cases y <;> first | exact q.elim | exact .inl ⟨_, _, rfl, rfl, q⟩ | exact .inr ⟨_, _, rfl, rfl, q.1, q.2⟩
theorem iop_zAdd : OpR X (inplaceOp .Add) zAdd := OpR.imp (OpR.or iop_add iop_add_str) fun x y H Q q => by
  cases x <;> cases y <;> first | exact q.elim | exact .inl ⟨_, _, rfl, rfl, q⟩ | exact .inr ⟨_, _, rfl, rfl, q.1, q.2⟩
theorem iop_zSub : OpR X (inplaceOp .Sub) zSub := OpR.imp iop_sub fun x y H Q q => by
  cases x <;> cases y <;> first | exact q.elim | exact ⟨_, _, rfl, rfl, q⟩
theorem op_zCatL : OpR X (binaryOp .Add) zCatL := OpR.imp op_cat fun x y H Q q => by
  cases x <;> cases y <;> first | exact q.elim | skip
  obtain ⟨xs, zs, h1, h2, h3, h4⟩ := q
  exact ⟨_, _, xs, zs, rfl, rfl, h1, h2, h3, h4⟩
theorem op_zCatT : OpR X (binaryOp .Add) (zCatT X.K) := OpR.imp op_catA fun x y H Q q => by
  cases x <;> cases y <;> first | exact q.elim | skip
  obtain ⟨xs, zs, h⟩ := q
  exact ⟨_, _, xs, zs, rfl, rfl, h⟩
theorem op_zRepL : OpR X (binaryOp .Mult) zRepL := OpR.imp op_rep fun x y H Q q => by
  cases x <;> cases y <;> first | exact q.elim | skip
  obtain ⟨xs, h⟩ := q
  exact ⟨_, _, xs, rfl, rfl, h⟩
theorem op_zEq : OpR X (compareOp .Eq) zEq := OpR.imp op_eq fun x y H Q q => by
  unfold zEq at q
  cases e : sEq x y with
  | none => rw [e] at q; exact q.elim
  | some b =>
    rw [e] at q
    obtain ⟨h1, h2⟩ := sEq_ok e
    refine ⟨h1, ?_⟩
    rw [h2]
    exact q
theorem op_zNe : OpR X (compareOp .NotEq) zNe := OpR.imp op_ne fun x y H Q q => by
  unfold zNe at q
  cases e : sEq x y with
  | none => rw [e] at q; exact q.elim
  | some b =>
    rw [e] at q
    obtain ⟨h1, h2⟩ := sEq_ok e
    refine ⟨h1, ?_⟩
    rw [h2]
    exact q
theorem op_zEqD (hu : X.A.units + 64 < cLine) : OpR X (compareOp .Eq) (zEqD X.K) := op_eqD hu
theorem op_zNeD (hu : X.A.units + 64 < cLine) : OpR X (compareOp .NotEq) (zNeD X.K) := op_neD hu
theorem op_zLt : OpR X (compareOp .Lt) zLt := OpR.imp op_lt fun x y H Q q => by
  cases x <;> cases y <;> first | exact q.elim | exact ⟨_, _, rfl, rfl, q⟩
theorem op_zLe : OpR X (compareOp .LtE) zLe := OpR.imp op_le fun x y H Q q => by
  cases x <;> cases y <;> first | exact q.elim | exact ⟨_, _, rfl, rfl, q⟩
theorem op_zGt : OpR X (compareOp .Gt) zGt := OpR.imp op_gt fun x y H Q q => by
  cases x <;> cases y <;> first | exact q.elim | exact ⟨_, _, rfl, rfl, q⟩
theorem op_zGe : OpR X (compareOp .GtE) zGe := OpR.imp op_ge fun x y H Q q => by
  cases x <;> cases y <;> first | exact q.elim | exact ⟨_, _, rfl, rfl, q⟩
theorem op_zIn : OpR X (compareOp .In) (zIn X.K false) := OpR.imp (OpR.or op_in_seq op_in_sign) fun x y H Q q => by
  cases y with
  | ref p =>
    obtain ⟨xs, h1, h2, h3, h4⟩ := q
    exact .inl ⟨p, xs, rfl, h1, h2, h3, h4⟩
  | str z =>
    cases x with
    | str c =>
      obtain ⟨n, rfl, h⟩ := q
      exact .inr ⟨n, z, rfl, rfl, h⟩
    | _ => exact q.elim
  | _ => exact q.elim
theorem op_zNotIn : OpR X (compareOp .NotIn) (zIn X.K true) := OpR.imp (OpR.or op_notIn_seq op_notIn_sign) fun x y H Q q => by
  cases y with
  | ref p =>
    obtain ⟨xs, h1, h2, h3, h4⟩ := q
    exact .inl ⟨p, xs, rfl, h1, h2, h3, h4⟩
  | str z =>
    cases x with
    | str c =>
      obtain ⟨n, rfl, h⟩ := q
      exact .inr ⟨n, z, rfl, rfl, h⟩
    | _ => exact q.elim
  | _ => exact q.elim
theorem op_zIs : OpR X (compareOp .Is) zIs := OpR.imp op_isN fun x y H Q q => by
  cases y <;> first | exact q.elim | skip
  refine ⟨rfl, ?_⟩
  cases x <;> exact q
theorem op_zIsNot : OpR X (compareOp .IsNot) zIsNot := OpR.imp op_notN fun x y H Q q => by
  cases y <;> first | exact q.elim | skip
  refine ⟨rfl, ?_⟩
  cases x <;> exact q
theorem un_zNeg : UnR X (unaryOp .USub) zNeg := fun pins s σ H x v Q I rx q => un_neg pins s σ H x v Q I rx (by cases x <;> first | exact q.elim | exact ⟨_, rfl, q⟩)
/-! ### expressions -/
theorem yv (i : Nat) {x : Str} {pos : Pos} (hN : X.N[i]? = some x := by rfl) (hv : Vis X.env.scope x := by first | exact Or.inl rfl | exact Or.inr (Or.inl rfl) | exact Or.inr (Or.inr rfl)) (hd : (x == ("__debug__" : Str)) = false := by decide)
    (hcd : (x == ("__classdict__" : Str)) = false := by decide) : PE X (.Name x pos) (yVar i) := PE.imp (pv i hN hv hd hcd) fun σ H Q q => by
  unfold yVar at q
  split at q
  · rename_i v e
    exact ⟨v, e, q⟩
  · exact q.elim
/-- a and b, a or b: of truth values, but the last -/
def yAndV (ta tb : TE) : TE := fun σ H Q => ta σ H fun x H1 => match x with
  | .bl c => yBr c (tb σ H1 Q) (Q (.bl false) H1)
  | _ => False
def yOrV (ta tb : TE) : TE := fun σ H Q => ta σ H fun x H1 => match x with
  | .bl c => yBr c (Q (.bl true) H1) (tb σ H1 Q)
  | _ => False
def yNotV (ta : TE) : TE := fun σ H Q => ta σ H fun x H1 => match x with
  | .bl c => Q (.bl (!c)) H1
  | _ => False
end
end Eb

namespace Eb
open PySem PySem.Spec PyProof.Rows L2
/-! ### a reading made monotone -/
def upE (t : TE) : TE := fun σ H Q => ∃ Q0 : VK, t σ H Q0 ∧ ∀ v H', Q0 v H' → Q v H'
def upT (t : TT) : TT := fun σ H Q => ∃ Q0 : Bool → Hp → Prop, t σ H Q0 ∧ ∀ v H', Q0 v H' → Q v H'
def upA (t : TA) : TA := fun σ H Q => ∃ Q0 : List V → Hp → Prop, t σ H Q0 ∧ ∀ v H', Q0 v H' → Q v H'
section
variable {X : Cx}
theorem PE.up {e : Expr} {t : TE} (h : PE X e t) : PE X e (upE t) := ⟨fun pins s σ H Q I ⟨Q0, q, k⟩ => thn (h.run pins s σ H Q0 I q) fun u s1 ⟨v, H', I', r, q'⟩ => ⟨v, H', I', r, k v H' q'⟩⟩
theorem PT.up {e : Expr} {t : TT} (h : PT X e t) : PT X e (upT t) := ⟨fun pins s σ H Q I ⟨Q0, q, k⟩ => thn (h.run pins s σ H Q0 I q) fun u s1 ⟨H', I', q'⟩ => ⟨H', I', k u H' q'⟩⟩
theorem PA.up {e : List Expr} {t : TA} (h : PA X e t) : PA X e (upA t) := ⟨fun pos pins s σ H Q I ⟨Q0, q, k⟩ => thn (h.run pos pins s σ H Q0 I q) fun u s1 ⟨v, H', I', r, q'⟩ => ⟨v, H', I', r, k v H' q'⟩⟩
/-- an operator's reading made monotone -/
def upR (r : R2) : R2 := fun x y H Q => ∃ Q0 : VK, r x y H Q0 ∧ ∀ v H', Q0 v H' → Q v H'
theorem OpR.up {X : Cx} {f : Value → Value → Sem Value} {r : R2} (h : OpR X f r) : OpR X f (upR r) := fun pins s σ H x y v u Q I rx ry ⟨Q0, q, k⟩ => thn (h pins s σ H x y v u Q0 I rx ry q) fun _ s1 ⟨v, H', I', r, q'⟩ => ⟨v, H', I', r, k v H' q'⟩
end
/-! ### tests -/
def yTst (t : TE) : TT := fun σ H Q => t σ H fun x H1 => match x with
  | .bl c => Q c H1
  | _ => False
def yAnd (t u : TT) : TT := fun σ H Q => t σ H fun c H1 => yBr c (u σ H1 Q) (Q false H1)
def yOr (t u : TT) : TT := fun σ H Q => t σ H fun c H1 => yBr c (Q true H1) (u σ H1 Q)
def yNot (t : TT) : TT := fun σ H Q => t σ H fun c H1 => Q (!c) H1
def yIfE (t : TT) (ta tb : TE) : TE := fun σ H Q => t σ H fun c H1 => yBr c (ta σ H1 Q) (tb σ H1 Q)
def yIf (t : TT) (a b : TS) : TS := fun D σ H => t σ H fun c H1 => yBr c (a D σ H1) (b D σ H1)
/-- truth of a list or tuple -/
def yTruL (K : PySem.W.Frag) (t : TE) : TT := fun σ H Q => t σ H fun x H1 => match x with
  | .ref a => ∃ xs, (SqL K H1 a xs ∨ SqT K H1 a xs) ∧ Q (!xs.isEmpty) H1
  | _ => False
/-- a < b < c -/
def yChain (r r' : R2) (ta tb tc : TE) : TE := fun σ H Q => ta σ H fun x H1 => tb σ H1 fun y H2 => r x y H2 fun z H3 => match z with
  | .bl k => yBr k (tc σ H3 fun w' H4 => r' y w' H4 Q) (Q (.bl false) H3)
  | _ => False
/-- xs or ys, of lists -/
def yOrL (K : PySem.W.Frag) (ta tb : TE) : TE := fun σ H Q => ta σ H fun x H1 => match x with
  | .ref a => ∃ xs, (SqL K H1 a xs ∨ SqT K H1 a xs) ∧ yBr (!xs.isEmpty) (Q (.ref a) H1) (tb σ H1 Q)
  | .non => tb σ H1 Q
  | _ => False
section
variable {X : Cx}
theorem yt_val {e : Expr} {t : TE} (h : PE X e t) (he : ∀ whole, isTrue e X.env whole = (do let v ← whole; standAt e.pos; holding [v] (truthy v)) := by intro _; rfl) : PT X e (yTst t) := PT.imp (pt_val (PE.up h) he) fun σ H Q q => ⟨_, q, fun x H1 q1 => by
  cases x <;> first | exact False.elim q1 | exact ⟨_, rfl, q1⟩⟩
theorem yt_cmp {op : CmpOp} {a b : Expr} {ta tb : TE} {r : R2} {pos : Pos} (ho : OpR X (compareOp op) r) (ha : PE X a ta) (hb : PE X b tb) (hm : behindInMarks op b = false) : PT X (.Compare a [op] [b] pos) (yTst (tOp r ta tb)) :=
  PT.imp (pt_cmpR (OpR.up ho) (PE.up ha) (PE.up hb) hm) fun σ H Q q => ⟨_, q, fun x H1 q1 => ⟨_, q1, fun y H2 q2 => ⟨_, q2, fun z H3 q3 => by
    cases z <;> first | exact False.elim q3 | exact ⟨_, rfl, q3⟩⟩⟩⟩
theorem yt_and {a b : Expr} {rest : List Expr} {pos : Pos} {ta tb : TT} (ha : PT X a ta) (hb : PW X (.BoolOp .And (b :: rest) pos) tb) : PW X (.BoolOp .And (a :: b :: rest) pos) (yAnd ta tb) := by
  have e : yAnd ta tb = tAnd ta tb := by
    funext σ H Q
    unfold yAnd tAnd
    simp only [yBr_def]
  rw [e]
  exact pw_and ha hb
theorem yt_or {a b : Expr} {rest : List Expr} {pos : Pos} {ta tb : TT} (ha : PT X a ta) (hb : PW X (.BoolOp .Or (b :: rest) pos) tb) : PW X (.BoolOp .Or (a :: b :: rest) pos) (yOr ta tb) := by
  have e : yOr ta tb = tOr ta tb := by
    funext σ H Q
    unfold yOr tOr
    simp only [yBr_def]
  rw [e]
  exact pw_or ha hb
theorem yt_not {a : Expr} {ta : TT} {pos : Pos} (ha : PT X a ta) : PT X (.UnaryOp .Not a pos) (yNot ta) := pt_not ha
theorem ye_if {c a b : Expr} {t : TT} {ta tb : TE} {pos : Pos} (hc : PT X c t) (ha : PE X a ta) (hb : PE X b tb) : PE X (.IfExp c a b pos) (yIfE t ta tb) := by
  have e : yIfE t ta tb = tIf t ta tb := by
    funext σ H Q
    unfold yIfE tIf
    simp only [yBr_def]
  rw [e]
  exact pe_ifExp hc ha hb
theorem ys_if {c : Expr} {a b : List Stmt} {t : TT} {u v : TS} {pos : Pos} (hc : PT X c t) (ha : PSs X a u) (hb : PSs X b v) : PS X (.If c a b pos) (yIf t u v) := by
  have e : yIf t u v = tIfS t u v := by
    funext D σ H
    unfold yIf tIfS
    simp only [yBr_def]
  rw [e]
  exact ps_if hc ha hb
theorem yt_truL {e : Expr} {t : TE} (h : PE X e t) (he : ∀ whole, isTrue e X.env whole = (do let v ← whole; standAt e.pos; holding [v] (truthy v))) : PT X e (yTruL X.K t) :=
  PT.imp (pt_truth (PE.up h) he) fun σ H Q q => ⟨_, q, fun x H1 q1 => by
    cases x <;> first | exact False.elim q1 | skip
    obtain ⟨xs, h1, q2⟩ := q1
    rcases h1 with h1 | h1
    · exact ⟨_, .inl ⟨xs, h1, rfl⟩, q2⟩
    · exact ⟨_, .inr (.inl ⟨xs, h1, rfl⟩), q2⟩⟩
theorem ye_chain {op op' : CmpOp} {a b c : Expr} {ta tb tc : TE} {r r' : R2} {pos : Pos} (ho : OpR X (compareOp op) r) (ho' : OpR X (compareOp op') r') (ha : PE X a ta) (hb : PE X b tb) (hc : PE X c tc)
    (hm : lastMarks [op, op'] [b, c] = false := by with_unfolding_all rfl) : PE X (.Compare a [op, op'] [b, c] pos) (yChain r r' ta tb tc) :=
  PE.imp (pe_chain (OpR.up ho) ho' (PE.up ha) (PE.up hb) hc hm) fun σ H Q q => ⟨_, q, fun x H1 q1 => ⟨_, q1, fun y H2 q2 => ⟨_, q2, fun z H3 q3 => by
    cases z <;> first | exact False.elim q3 | skip
    refine ⟨_, rfl, ?_⟩
    have q4 := q3
    dsimp only at q4
    rw [yBr_def] at q4
    exact q4⟩⟩⟩
theorem yt_chain {op op' : CmpOp} {a b c : Expr} {ta tb tc : TE} {r r' : R2} {pos : Pos} (ho : OpR X (compareOp op) r) (ho' : OpR X (compareOp op') r') (ha : PE X a ta) (hb : PE X b tb) (hc : PE X c tc)
    (hm : lastMarks [op, op'] [b, c] = false := by with_unfolding_all rfl) : PT X (.Compare a [op, op'] [b, c] pos) (yTst (yChain r r' ta tb tc)) :=
  PT.imp (pt_chain (OpR.up ho) (OpR.up ho') (PE.up ha) (PE.up hb) (PE.up hc) hm) fun σ H Q q => ⟨_, q, fun x H1 q1 => ⟨_, q1, fun y H2 q2 => ⟨_, q2, fun z H3 q3 => by
    cases z <;> first | exact False.elim q3 | skip
    refine ⟨_, rfl, ?_⟩
    have q4 := q3
    dsimp only at q4
    rw [yBr_def] at q4
    rename_i k
    cases k with
    | true => exact ⟨_, q4, fun w' H4 q5 => ⟨_, q5, fun z' H5 q6 => by
        cases z' <;> first | exact False.elim q6 | exact ⟨_, rfl, q6⟩⟩⟩
    | false => exact ⟨_, rfl, q4⟩⟩⟩⟩
theorem ye_and {a b : Expr} {rest : List Expr} {pos : Pos} {ta tb : TE} (ha : PE X a ta) (hb : PE X (.BoolOp .And (b :: rest) pos) tb) : PE X (.BoolOp .And (a :: b :: rest) pos) (yAndV ta tb) :=
  PE.imp (pe_and (PE.up ha) hb) fun σ H Q q => ⟨_, q, fun x H1 q1 => by
    cases x <;> first | exact False.elim q1 | skip
    refine ⟨_, rfl, ?_⟩
    dsimp only at q1
    rw [yBr_def] at q1
    exact q1⟩
theorem ye_or {a b : Expr} {rest : List Expr} {pos : Pos} {ta tb : TE} (ha : PE X a ta) (hb : PE X (.BoolOp .Or (b :: rest) pos) tb) : PE X (.BoolOp .Or (a :: b :: rest) pos) (yOrV ta tb) :=
  PE.imp (pe_or (PE.up ha) hb) fun σ H Q q => ⟨_, q, fun x H1 q1 => by
    cases x <;> first | exact False.elim q1 | skip
    refine ⟨_, rfl, ?_⟩
    dsimp only at q1
    rw [yBr_def] at q1
    exact q1⟩
theorem ye_not {a : Expr} {pos : Pos} {ta : TE} (ha : PE X a ta) : PE X (.UnaryOp .Not a pos) (yNotV ta) :=
  PE.imp (pe_not (PE.up ha)) fun σ H Q q => ⟨_, q, fun x H1 q1 => by
    cases x <;> first | exact False.elim q1 | skip
    exact ⟨_, rfl, q1⟩⟩
end
/-! ### subscripts -/
def zIxL (K : PySem.W.Frag) : R2 := fun x y H Q => match x, y with
  | .ref p, .int i => ∃ xs v, (SqL K H p xs ∨ SqT K H p xs) ∧ atI xs i = some v ∧ Q v H
  | .str z, .int i => z.length ≤ sizeLine ∧ ∃ c, atI z.cps.toList i = some c ∧ Q (.str ⟨#[c]⟩) H
  | _, _ => False
def yDGet (td ty : TE) : TE := fun σ H Q => td σ H fun x H1 => ty σ H1 fun y H2 => match x, y with
  | .ref a, .str k => ∃ kvs v, Rd H2 a (.dK kvs) ∧ valV kvs (Sum.inr k) = some v ∧ Q v H2
  | .ref a, .int k => ∃ kvs v, Rd H2 a (.dK kvs) ∧ valV kvs (Sum.inl k) = some v ∧ Q v H2
  | _, _ => False
def yDPut (td ty tv : TE) : TS := fun D σ H => tv σ H fun v H1 => td σ H1 fun x H2 => ty σ H2 fun y H3 => match x, y with
  | .ref a, .str k => ∃ kvs, H3 a = some (.dK kvs) ∧ kvs.length < sizeLine ∧ D.nx σ (upd H3 a (.dK (putK kvs (Sum.inr k) v)))
  | .ref a, .int k => ∃ kvs, H3 a = some (.dK kvs) ∧ kvs.length < sizeLine ∧ D.nx σ (upd H3 a (.dK (putK kvs (Sum.inl k) v)))
  | _, _ => False
def yDIn (neg : Bool) (ty td : TE) : TE := fun σ H Q => ty σ H fun y H1 => td σ H1 fun x H2 => match x, y with
  | .ref a, .str k => ∃ kvs, Rd H2 a (.dK kvs) ∧ Q (.bl (if neg then !(valV kvs (Sum.inr k)).isSome else (valV kvs (Sum.inr k)).isSome)) H2
  | .ref a, .int k => ∃ kvs, Rd H2 a (.dK kvs) ∧ Q (.bl (if neg then !(valV kvs (Sum.inl k)).isSome else (valV kvs (Sum.inl k)).isSome)) H2
  | _, _ => False
section
variable {X : Cx}
theorem ix_zIxL : IxR X (zIxL X.K) := IxR.imp ix_seq fun x y H Q q => by
  cases x <;> cases y <;> first | exact q.elim | skip
  · obtain ⟨h, c, h2, q⟩ := q
    exact .inr (.inr ⟨_, _, c, rfl, rfl, h, h2, q⟩)
  · obtain ⟨xs, v, h, h2, q⟩ := q
    rcases h with h | h
    · exact .inl ⟨_, xs, _, v, rfl, rfl, h, h2, q⟩
    · exact .inr (.inl ⟨_, xs, _, v, rfl, rfl, h, h2, q⟩)
theorem ye_dget {o i : Expr} {td ty : TE} {pos : Pos} (hu : X.A.units + 1 < cLine) (ho : PE X o td) (hi : PE X i ty) (hs : NoSl i) : PE X (.Subscript o i pos) (yDGet td ty) :=
  PE.imp (pe_dget hu (PE.up ho) (PE.up hi) hs) fun σ H Q q => ⟨_, q, fun x H1 q1 => ⟨_, q1, fun y H2 q2 => by
    cases x <;> cases y <;> first | exact False.elim q2 | skip
    all_goals
      obtain ⟨kvs, v, h1, h2, q3⟩ := q2
    · exact ⟨_, v, rfl, .inl ⟨kvs, Sum.inl _, h1, rfl, h2.symm⟩, q3⟩
    · exact ⟨_, v, rfl, .inl ⟨kvs, Sum.inr _, h1, rfl, h2.symm⟩, q3⟩⟩⟩
theorem ys_dput {o i value : Expr} {td ty tv : TE} {pos pos' : Pos} (hu : X.A.units + 1 < cLine) (ho : PE X o td) (hi : PE X i ty) (hv : PE X value tv) (hs : swapsWith value (some (.Subscript o i pos')) pos.line X.env = pure false) :
    PS X (.Assign [.Subscript o i pos'] value pos) (yDPut td ty tv) := PS.imp (ps_dput hu (PE.up ho) (PE.up hi) (PE.up hv) hs) fun D σ H q => ⟨_, q, fun v H1 q1 => ⟨_, q1, fun x H2 q2 => ⟨_, q2, fun y H3 q3 => by
    cases x <;> cases y <;> first | exact False.elim q3 | skip
    all_goals
      obtain ⟨kvs, h1, h2, q4⟩ := q3
    · exact ⟨_, _, rfl, .inl ⟨kvs, Sum.inl _, h1, rfl, h2, rfl⟩, q4⟩
    · exact ⟨_, _, rfl, .inl ⟨kvs, Sum.inr _, h1, rfl, h2, rfl⟩, q4⟩⟩⟩⟩
theorem ye_din {i o : Expr} {ty td : TE} {pos : Pos} (hu : X.A.units + 1 < cLine) (hi : PE X i ty) (ho : PE X o td) (hm : behindInMarks .In o = false) : PE X (.Compare i [.In] [o] pos) (yDIn false ty td) :=
  PE.imp (pe_cmp (pc_din hu (PE.up hi) (PE.up ho)) hm) fun σ H Q q => ⟨_, q, fun y H1 q1 => ⟨_, q1, fun x H2 q2 => by
    cases x <;> cases y <;> first | exact False.elim q2 | skip
    all_goals
      obtain ⟨kvs, h1, q3⟩ := q2
    · exact ⟨_, _, rfl, .inl ⟨kvs, Sum.inl _, h1, rfl, rfl⟩, q3⟩
    · exact ⟨_, _, rfl, .inl ⟨kvs, Sum.inr _, h1, rfl, rfl⟩, q3⟩⟩⟩
theorem yt_din {i o : Expr} {ty td : TE} {pos : Pos} (hu : X.A.units + 1 < cLine) (hi : PE X i ty) (ho : PE X o td) (hm : behindInMarks .In o = false) : PT X (.Compare i [.In] [o] pos) (yTst (yDIn false ty td)) :=
  PT.imp (pt_cmp (pc_din hu (PE.up hi) (PE.up ho)) hm) fun σ H Q q => ⟨_, q, fun y H1 q1 => ⟨_, q1, fun x H2 q2 => by
    cases x <;> cases y <;> first | exact False.elim q2 | skip
    all_goals
      obtain ⟨kvs, h1, q3⟩ := q2
    · exact ⟨_, _, rfl, .inl ⟨kvs, Sum.inl _, h1, rfl, rfl⟩, _, rfl, q3⟩
    · exact ⟨_, _, rfl, .inl ⟨kvs, Sum.inr _, h1, rfl, rfl⟩, _, rfl, q3⟩⟩⟩
theorem yt_dnotin {i o : Expr} {ty td : TE} {pos : Pos} (hu : X.A.units + 1 < cLine) (hi : PE X i ty) (ho : PE X o td) (hm : behindInMarks .NotIn o = false) : PT X (.Compare i [.NotIn] [o] pos) (yTst (yDIn true ty td)) :=
  PT.imp (pt_cmp (pc_dnotin hu (PE.up hi) (PE.up ho)) hm) fun σ H Q q => ⟨_, q, fun y H1 q1 => ⟨_, q1, fun x H2 q2 => by
    cases x <;> cases y <;> first | exact False.elim q2 | skip
    all_goals
      obtain ⟨kvs, h1, q3⟩ := q2
    · exact ⟨_, _, rfl, .inl ⟨kvs, Sum.inl _, h1, rfl, rfl⟩, _, rfl, q3⟩
    · exact ⟨_, _, rfl, .inl ⟨kvs, Sum.inr _, h1, rfl, rfl⟩, _, rfl, q3⟩⟩⟩
theorem ye_dnotin {i o : Expr} {ty td : TE} {pos : Pos} (hu : X.A.units + 1 < cLine) (hi : PE X i ty) (ho : PE X o td) (hm : behindInMarks .NotIn o = false) : PE X (.Compare i [.NotIn] [o] pos) (yDIn true ty td) :=
  PE.imp (pe_cmp (pc_dnotin hu (PE.up hi) (PE.up ho)) hm) fun σ H Q q => ⟨_, q, fun y H1 q1 => ⟨_, q1, fun x H2 q2 => by
    cases x <;> cases y <;> first | exact False.elim q2 | skip
    all_goals
      obtain ⟨kvs, h1, q3⟩ := q2
    · exact ⟨_, _, rfl, .inl ⟨kvs, Sum.inl _, h1, rfl, rfl⟩, q3⟩
    · exact ⟨_, _, rfl, .inl ⟨kvs, Sum.inr _, h1, rfl, rfl⟩, q3⟩⟩⟩
end
/-! ### attributes -/
/-- one of some classes of the module -/
def isC (K : PySem.W.Frag) : List Str → Addr → Prop
  | [], _ => False
  | [x], C => C = He.ga K x
  | x :: r, C => C = He.ga K x ∨ isC K r C
/-- e.f of an instance of one of some classes -/
def yFld (P : Addr → Prop) (ta : TE) (f : Str) : TE := fun σ H Q => ta σ H fun x H1 => match x with
  | .ref a => ∃ C dx fs v, H1 a = some (.ins C dx fs) ∧ P C ∧ fs.lookup f = some v ∧ Q v H1
  | _ => False
def yPutF (P : Addr → Prop) (ta tv : TE) (f : Str) : TS := fun D σ H => tv σ H fun y H1 => ta σ H1 fun x H2 => match x with
  | .ref a => ∃ C dx fs, H2 a = some (.ins C dx fs) ∧ P C ∧ fs.length < 1000 ∧ D.nx σ (upd H2 a (.ins C dx (putF f y fs)))
  | _ => False
def yAugF (P : Addr → Prop) (ta tv : TE) (rd : R2) (f : Str) : TS := fun D σ H => ta σ H fun x H1 => match x with
  | .ref a => ∃ C dx fs v, H1 a = some (.ins C dx fs) ∧ P C ∧ fs.lookup f = some v ∧ tv σ H1 fun y H2 => rd v y H2 fun z H3 => ∃ dx' fs', H3 a = some (.ins C dx' fs') ∧ fs'.length < 1000 ∧ D.nx σ (upd H3 a (.ins C dx' (putF f z fs')))
  | _ => False
section
variable {X : Cx}
theorem ye_fld {P : Addr → Prop} {e : Expr} {ta : TE} {f : Str} {pos : Pos} (hP : ∀ C, P C → Cls X.K C ∧ NoAttr X.K C f) (he : PE X e ta) (hb : attributeBase e f X.env (eval e X.env) = eval e X.env) : PE X (.Attribute e f pos) (yFld P ta f) :=
  PE.imp (pe_fld (PE.up he) hb) fun σ H Q q => ⟨_, q, fun x H1 q1 => by
    cases x <;> first | exact False.elim q1 | skip
    obtain ⟨C, dx, fs, v, h1, h2, h3, q2⟩ := q1
    exact ⟨_, C, dx, fs, v, rfl, h1, (hP C h2).1, (hP C h2).2, h3, q2⟩⟩
theorem ys_fld {P : Addr → Prop} {o value : Expr} {ta tv : TE} {f : Str} {pos pos' : Pos} (hP : ∀ C, P C → Cls X.K C ∧ NoAttr X.K C f) (ha : PE X o ta) (hv : PE X value tv) (hs : swapsWith value (some (.Attribute o f pos')) pos.line X.env = pure false) :
    PS X (.Assign [.Attribute o f pos'] value pos) (yPutF P ta tv f) := PS.imp (ps_fld (PE.up ha) (PE.up hv) hs) fun D σ H q => ⟨_, q, fun y H1 q1 => ⟨_, q1, fun x H2 q2 => by
    cases x <;> first | exact False.elim q2 | skip
    obtain ⟨C, dx, fs, h1, h2, h3, q3⟩ := q2
    exact ⟨_, C, dx, fs, rfl, h1, (hP C h2).1, (hP C h2).2, h3, q3⟩⟩⟩
end
/-! ### sources of loops -/
abbrev Rsrc := Nat → (Hp → Prop) → (Nat → Hp → V → Hp → Prop) → Hp → Prop
abbrev Src := L2.St → Hp → Rsrc → Prop
structure PSrc (X : Cx) (tg iter : Expr) (src : Src) : Prop where
  wi : ∃ wi : TI, PI X tg iter wi ∧ ∀ σ H (R : It → Hp → Prop) (R' : Rsrc), src σ H R' → (∀ n G Y H1, R' n G Y H1 → ∀ J, Walk J n G Y → R J H1) → wi σ H R
/-- a for: Pv by the turn, the slots, the heap -/
def yFor (src : Src) (g : TG) (tb : TS) : TS := fun D σ H => src σ H fun n G Y H1 => ∃ Pv : Nat → L2.St → Hp → Prop, Pv 0 σ H1 ∧ (∀ i σ H, i ≤ n → Pv i σ H → G H) ∧
  (∀ i x σ H H', i < n → Pv i σ H → Y i H x H' → g x σ H' fun σ2 H2 => tb { D with nx := Pv (i + 1), ct := Pv (i + 1), bk := D.nx } σ2 H2) ∧ ∀ σ H, Pv n σ H → D.nx σ H
/-- a comprehension: Pv by the turn, what is made so far, the heap (the new list at D within) -/
def yLc (src : Src) (g : TG) (tt : TT) (te : TE) (vs : List Nat) : TE := fun σ H Q => src σ H fun n G Y H1 => ∀ D, H1 D = none → ∃ Pv : Nat → List V → Hp → Prop, Pv 0 [] (upd H1 D (.lst [])) ∧ (∀ i acc H, i ≤ n → Pv i acc H → G H ∧ H D = some (.lst acc) ∧ acc.length < sizeLine) ∧
  (∀ i x acc H H', i < n → Pv i acc H → Y i H x H' → g x (wipe σ vs) H' fun σ2 H2 => wipe σ2 vs = wipe σ vs ∧ tt σ2 H2 fun b H3 =>
    yBr b (te σ2 H3 fun y H4 => H4 D = some (.lst acc) ∧ Pv (i + 1) (acc ++ [y]) (upd H4 D (.lst (acc ++ [y])))) (Pv (i + 1) acc H3)) ∧ ∀ acc H, Pv n acc H → Q (.ref D) H
def jLst (K : PySem.W.Frag) (tl : TE) : Src := fun σ H R => tl σ H fun x H1 => match x with
  | .ref a => ∃ xs, SqL K H1 a xs ∧ R xs.length (fun H => SqL K H a xs) (YAt xs) H1
  | _ => False
def jTup (K : PySem.W.Frag) (tl : TE) : Src := fun σ H R => tl σ H fun x H1 => match x with
  | .ref a => ∃ xs, SqT K H1 a xs ∧ R xs.length (fun H => SqT K H a xs) (YAt xs) H1
  | _ => False
def jStr (tl : TE) : Src := fun σ H R => tl σ H fun x H1 => match x with
  | .str z => R z.cps.size (fun _ => True) (fun i H v H' => H' = H ∧ ∃ c, z.cps[i]? = some c ∧ v = .str ⟨#[c]⟩) H1
  | _ => False
def jRng (tl : TE) : Src := fun σ H R => tl σ H fun x H1 => match x with
  | .int j => -(2 ^ 62) ≤ j ∧ j < 2 ^ 62 ∧ R j.toNat (fun _ => True) (YFn fun i => .int (0 + (i : Nat))) H1
  | _ => False
def jRng2 (tl th : TE) : Src := fun σ H R => tl σ H fun x H1 => th σ H1 fun y H2 => match x, y with
  | .int i, .int j => (-(2 ^ 62) ≤ i ∧ i < 2 ^ 62 ∧ -(2 ^ 62) ≤ j ∧ j < 2 ^ 62) ∧ R (j - i).toNat (fun _ => True) (YFn fun k => .int (i + (k : Nat))) H2
  | _, _ => False
def jEnum (K : PySem.W.Frag) (tl : TE) : Src := fun σ H R => tl σ H fun x H1 => match x with
  | .ref a => ∃ xs, SqL K H1 a xs ∧ R xs.length (fun H => SqL K H a xs) (YPair (fun i => some (.int (i : Nat))) (fun i => xs[i]?)) H1
  | _ => False
def jZip (K : PySem.W.Frag) (tl th : TE) : Src := fun σ H R => tl σ H fun x H1 => th σ H1 fun y H2 => match x, y with
  | .ref a, .ref b => ∃ xs ys, SqL K H2 a xs ∧ SqL K H2 b ys ∧ R (min xs.length ys.length) (fun H => SqL K H a xs ∧ SqL K H b ys) (YPair (fun i => xs[i]?) (fun i => ys[i]?)) H2
  | _, _ => False
theorem PTs.up {X : Cx} {ifs : List Expr} {t : TT} (h : PTs X ifs t) : PTs X ifs (upT t) := ⟨fun pins s σ H Q I ⟨Q0, q, k⟩ => thn (h.run pins s σ H Q0 I q) fun u s1 ⟨H', I', q'⟩ => ⟨H', I', k u H' q'⟩⟩
/-- a target's reading made monotone -/
def upG (g : TG) : TG := fun v σ H Q => ∃ Q0 : L2.St → Hp → Prop, g v σ H Q0 ∧ ∀ σ' H', Q0 σ' H' → Q σ' H'
theorem PG.up {X : Cx} {tg : Expr} {g : TG} (h : PG X tg g) : PG X tg (upG g) := ⟨fun pins s σ H v u Q I r ⟨Q0, q, k⟩ => thn (h.run pins s σ H v u Q0 I r q) fun _ s1 ⟨σ', H', I', q'⟩ => ⟨σ', H', I', k σ' H' q'⟩⟩
theorem lc_ends {n : Nat} {G : Hp → Prop} {Y : Nat → Hp → V → Hp → Prop} {J : It} (w : Walk J n G Y) {g : TG} {tt : TT} {te : TE} {vs : List Nat} {σ : L2.St} {H1 : Hp} (D : Addr) {Qd : VK}
    (h : ∃ Pv : Nat → List V → Hp → Prop, Pv 0 [] (upd H1 D (.lst [])) ∧ (∀ i acc H, i ≤ n → Pv i acc H → G H ∧ H D = some (.lst acc) ∧ acc.length < sizeLine) ∧
      (∀ i x acc H H', i < n → Pv i acc H → Y i H x H' → g x (wipe σ vs) H' fun σ2 H2 => wipe σ2 vs = wipe σ vs ∧ tt σ2 H2 fun b H3 =>
        yBr b (te σ2 H3 fun y H4 => H4 D = some (.lst acc) ∧ Pv (i + 1) (acc ++ [y]) (upd H4 D (.lst (acc ++ [y])))) (Pv (i + 1) acc H3)) ∧ ∀ acc H, Pv n acc H → Qd (.ref D) H) :
    ∃ W : Nat → Nat → Hp → Prop, (∃ m, W 0 m (upd H1 D (.lst []))) ∧ ∀ i m H, W i m H →
      (J.stop i H ∧ Qd (.ref D) H) ∨ (J.go i H ∧ ∃ Nx : Hp → Prop, (∀ H', Nx H' → ∃ m', m' < m ∧ W (i + 1) m' H') ∧ ∀ x H', J.yld i H x H' → upG g x (wipe σ vs) H' fun σ2 H2 => wipe σ2 vs = wipe σ vs ∧ upT tt σ2 H2 fun b H3 =>
        if b = true then upE te σ2 H3 fun y H4 => ∃ acc, H4 D = some (.lst acc) ∧ acc.length < sizeLine ∧ Nx (upd H4 D (.lst (acc ++ [y]))) else Nx H3) := by
  obtain ⟨Pv, h0, hG, ht, hd⟩ := h
  refine lc_it w (fun i H => ∃ acc, Pv i acc H) ⟨[], h0⟩ (fun i H hi ⟨acc, p⟩ => (hG i acc H hi p).1) (fun i x H H' hi ⟨acc, p⟩ y => ?_) fun H ⟨acc, p⟩ => hd acc H p
  have hl : acc.length < sizeLine := (hG i acc H (Nat.le_of_lt hi) p).2.2
  refine ⟨_, ht i x acc H H' hi p y, fun σ2 H2 ⟨e, q⟩ => ⟨e, _, q, fun b H3 q => ?_⟩⟩
  rw [yBr_def] at q
  cases b with
  | true => exact ⟨_, q, fun v H4 ⟨q1, q2⟩ => ⟨acc, q1, hl, _, q2⟩⟩
  | false => exact ⟨acc, q⟩
section
variable {X : Cx} {tg iter : Expr}
theorem ys_for {src : Src} {g : TG} {tb : TS} {body : List Stmt} {pos : Pos} (hp : PassesOwn (model X.prog X.w) X.A X.env X.xe) (hc : X.calm = true) (hi : PSrc X tg iter src) (hg : PG X tg g) (hb : PSs X body tb)
    (hs : ∀ x, foldedSetIterable iter X.env x = pure x := by intro _; rfl) : PS X (.For tg iter body [] pos) (yFor src g tb) := by
  obtain ⟨wi, h, k⟩ := hi.wi
  refine PS.imp (ps_for hp hc h hg hb hs) fun D σ H q => k σ H _ _ q fun n G Y H1 ⟨Pv, h0, hG, ht, hd⟩ J w => ?_
  exact for_it w Pv h0 hG ht hd
theorem ye_lc {src : Src} {g : TG} {tt : TT} {te : TE} {elt : Expr} {ifs : List Expr} {scope : Scope} {own : List (Str × Nat)} {pos : Pos} (hc : X.calm = true) (hN : X.N.Nodup) (hi : PSrc X tg iter src) (ok : BlkOk X.N X.env.scope scope own)
    (hg : ∀ (s : Shared) (H : Hp) (C : Addr) (cl : List (Str × Addr)) (fp : List Addr), PG (X.blk s H scope (compEnvC scope cl C X.env) fp) tg g) (ht : ∀ (s : Shared) (H : Hp) (C : Addr) (cl : List (Str × Addr)) (fp : List Addr), PTs (X.blk s H scope (compEnvC scope cl C X.env) fp) ifs tt)
    (he : ∀ (s : Shared) (H : Hp) (C : Addr) (cl : List (Str × Addr)) (fp : List Addr), PE (X.blk s H scope (compEnvC scope cl C X.env) fp) elt te) (hs : ∀ x, foldedSetIterable iter X.env x = pure x := by intro _; rfl) :
    PE X (.ListComp elt [⟨tg, iter, ifs, 0⟩] scope pos) (yLc src g tt te (own.map (·.2))) := by
  obtain ⟨wi, h, k⟩ := hi.wi
  refine PE.imp (pe_lc hc hN h ok (fun s H C cl fp => PG.up (hg s H C cl fp)) (fun s H C cl fp => PTs.up (ht s H C cl fp)) (fun s H C cl fp => PE.up (he s H C cl fp)) hs) fun σ H Q q => k σ H _ _ q fun n G Y H1 hh J w D hD => ?_
  exact lc_ends w D (hh D hD)
theorem j_lst {l : Expr} {tl : TE} (h : PE X l tl) : PSrc X tg l (jLst X.K tl) := ⟨_, pi_list (PE.up h), fun σ H R R' q k => ⟨_, q, fun x H1 q1 => by
  cases x <;> first | exact False.elim q1 | skip
  obtain ⟨xs, h1, q2⟩ := q1
  exact ⟨_, rfl, ⟨xs, h1⟩, k _ _ _ _ q2 _ walk_list⟩⟩⟩
theorem j_tup {l : Expr} {tl : TE} (h : PE X l tl) : PSrc X tg l (jTup X.K tl) := ⟨_, pi_tup (PE.up h), fun σ H R R' q k => ⟨_, q, fun x H1 q1 => by
  cases x <;> first | exact False.elim q1 | skip
  obtain ⟨xs, h1, q2⟩ := q1
  exact ⟨_, rfl, ⟨xs, h1⟩, k _ _ _ _ q2 _ walk_tup⟩⟩⟩
theorem j_str {l : Expr} {tl : TE} (h : PE X l tl) : PSrc X tg l (jStr tl) := ⟨_, pi_str (PE.up h), fun σ H R R' q k => ⟨_, q, fun x H1 q1 => by
  cases x <;> first | exact False.elim q1 | skip
  exact ⟨_, rfl, k _ _ _ _ q1 _ walk_str⟩⟩⟩
theorem j_rng {a : Expr} {ta : TE} {p pos : Pos} (hg : Gl X "range") (hm : X.mg "range" = none) (h : PE X a ta) (hs : starEach [a] X.env = [(false, eval a X.env)] := by rfl) : PSrc X tg (.Call (.Name "range" p) [a] [] pos) (jRng ta) := ⟨_, pi_range1 hg hm (pa_cons (PE.up h) pa_nil hs) hs, fun σ H R R' q k => ⟨_, q, fun x H1 q1 => by
  cases x <;> first | exact False.elim q1 | skip
  obtain ⟨h1, h2, q2⟩ := q1
  exact ⟨_, rfl, h1, h2, k _ _ _ _ q2 _ walk_range⟩⟩⟩
theorem j_rng2 {a b : Expr} {ta tb : TE} {p pos : Pos} (hg : Gl X "range") (hm : X.mg "range" = none) (ha : PE X a ta) (hb : PE X b tb) (hs : starEach [a, b] X.env = (false, eval a X.env) :: starEach [b] X.env := by rfl) (hs2 : starEach [b] X.env = (false, eval b X.env) :: starEach [] X.env := by rfl) (hpl : (backTo pos (starEach [b] X.env)).any (·.1) = false := by rfl) : PSrc X tg (.Call (.Name "range" p) [a, b] [] pos) (jRng2 ta tb) := ⟨_, pi_range2 hg hm (pa_cons (PE.up ha) (pa_cons (PE.up hb) pa_nil hs2) hs) (by rw [hs, hs2]; rfl) hs2, fun σ H R R' q k => ⟨_, q, fun x H1 q1 => ⟨_, q1, fun y H2 q2 => by
  cases x <;> cases y <;> first | exact False.elim q2 | skip
  obtain ⟨h1, q3⟩ := q2
  exact ⟨_, _, rfl, h1, k _ _ _ _ q3 _ walk_range⟩⟩⟩⟩
theorem j_enum {e : Expr} {te : TE} {p pos tpos : Pos} {elts : List Expr} {kk : Nat} (hg : Gl X "enumerate") (hm : X.mg "enumerate" = none) (h : PE X e te) (hs : starEach [e] X.env = [(false, eval e X.env)] := by rfl) : PSrc X (.Tuple elts kk tpos) (.Call (.Name "enumerate" p) [e] [] pos) (jEnum X.K te) := ⟨_, pi_enum hg hm (pa_cons (PE.up h) pa_nil hs) hs, fun σ H R R' q k => ⟨_, q, fun x H1 q1 => by
  cases x <;> first | exact False.elim q1 | skip
  obtain ⟨xs, h1, q2⟩ := q1
  exact ⟨_, xs, rfl, h1, k _ _ _ _ q2 _ walk_enum⟩⟩⟩
theorem j_zip {a b : Expr} {ta tb : TE} {p pos tpos : Pos} {elts : List Expr} {kk : Nat} (hg : Gl X "zip") (hm : X.mg "zip" = none) (ha : PE X a ta) (hb : PE X b tb) (hs : starEach [a, b] X.env = (false, eval a X.env) :: starEach [b] X.env := by rfl) (hs2 : starEach [b] X.env = (false, eval b X.env) :: starEach [] X.env := by rfl) (hpl : (backTo pos (starEach [b] X.env)).any (·.1) = false := by rfl) : PSrc X (.Tuple elts kk tpos) (.Call (.Name "zip" p) [a, b] [] pos) (jZip X.K ta tb) := ⟨_, pi_zip hg hm (pa_cons (PE.up ha) (pa_cons (PE.up hb) pa_nil hs2) hs) hs hpl, fun σ H R R' q k => ⟨_, q, fun x H1 q1 => ⟨_, q1, fun y H2 q2 => by
  cases x <;> cases y <;> first | exact False.elim q2 | skip
  obtain ⟨xs, ys, h1, h2, q3⟩ := q2
  exact ⟨_, _, xs, ys, rfl, h1, h2, k _ _ _ _ q3 _ (walk_zip rfl)⟩⟩⟩⟩
end
end Eb

namespace Eb
open PySem PySem.Spec PyProof.Rows L2
/-! ### while -/
def yWhile (c : TT) (tb : TS) : TS := fun D σ H => ∃ Pv : Nat → L2.St → Hp → Prop, (∃ m, Pv m σ H) ∧ ∀ m σ H, Pv m σ H → c σ H fun b H1 =>
  yBr b (tb { D with nx := fun σ' H' => ∃ m', m' < m ∧ Pv m' σ' H', ct := fun σ' H' => ∃ m', m' < m ∧ Pv m' σ' H', bk := D.nx } σ H1) (D.nx σ H1)
theorem ys_while {X : Cx} {c : Expr} {body : List Stmt} {tc : TT} {tb : TS} {pos : Pos} (hp : PassesOwn (model X.prog X.w) X.A X.env X.xe) (hc : PT X c tc) (hb : PSs X body tb) : PS X (.While c body [] pos) (yWhile tc tb) :=
  PS.imp (ps_while hp (PT.up hc) hb) fun D σ H ⟨Pv, h0, h⟩ => ⟨Pv, h0, fun m σ1 H1 p => ⟨_, h m σ1 H1 p, fun b H2 q => by
    rw [yBr_def] at q
    cases b with
    | true => exact ⟨fun σ' H' => ∃ m', m' < m ∧ Pv m' σ' H', fun σ' H' z => z, q⟩
    | false => exact q⟩⟩
/-! ### ways that meet -/
def yCut (t u : TS) : TS := fun D σ H => ∃ Mid : L2.St → Hp → Prop, t { D with nx := Mid } σ H ∧ ∀ σ' H', Mid σ' H' → u D σ' H'
theorem ys_cut {X : Cx} {st : Stmt} {rest : List Stmt} {t u : TS} (h1 : PS X st t) (h2 : PSs X rest u) : PSs X (st :: rest) (yCut t u) := by
  refine ⟨fun pins s σ H D I ⟨Mid, q1, q2⟩ => wpAny_execs_cons (thn (h1.run pins s σ H { D with nx := Mid } I q1) fun f s1 q => ?_)⟩
  cases f with
  | next =>
    obtain ⟨σ', H', I', m⟩ := q
    exact h2.run pins s1 σ' H' D I' (q2 σ' H' m)
  | brk => exact q
  | cont => exact q
  | ret u => exact q
/-! ### built-ins by name -/
/-- no name of the module hides a built-in -/
structure Blt (mg : Str → Option Value) : Prop where
  abs : mg "abs" = none
  all : mg "all" = none
  dict : mg "dict" = none
  enumerate : mg "enumerate" = none
  int : mg "int" = none
  isinstance : mg "isinstance" = none
  len : mg "len" = none
  list : mg "list" = none
  max : mg "max" = none
  min : mg "min" = none
  range : mg "range" = none
  repr : mg "repr" = none
  set : mg "set" = none
  sorted : mg "sorted" = none
  str : mg "str" = none
  sum : mg "sum" = none
  super : mg "super" = none
  tuple : mg "tuple" = none
  zip : mg "zip" = none
  ve : mg "ValueError" = none
  te : mg "TypeError" = none
def zInt : List V → Hp → VK → Prop := fun xs H Q => match xs with
  | [.int i] => Q (.int i) H
  | [.bl k] => Q (.int (if k then 1 else 0)) H
  | _ => False
def zAbs : List V → Hp → VK → Prop := fun xs H Q => match xs with
  | [.int i] => Q (.int (if i < 0 then -i else i)) H
  | _ => False
/-- len of a list, a tuple, a text -/
def zLen (K : PySem.W.Frag) : List V → Hp → VK → Prop := fun xs H Q => match xs with
  | [.ref p] => ∃ ys, (SqL K H p ys ∨ SqT K H p ys) ∧ Q (.int ys.length) H
  | [.str z] => z.length ≤ sizeLine ∧ Q (.int z.length) H
  | _ => False
def zLenD : List V → Hp → VK → Prop := fun xs H Q => match xs with
  | [.ref p] => ∃ kvs, H p = some (.dK kvs) ∧ Q (.int kvs.length) H
  | _ => False
def zList (K : PySem.W.Frag) : List V → Hp → VK → Prop := fun xs H Q => match xs with
  | [.ref p] => ∃ ys, (SqL K H p ys ∨ SqT K H p ys) ∧ ∀ l, H l = none → Q (.ref l) (upd H l (.lst ys))
  | _ => False
def zTuple (K : PySem.W.Frag) : List V → Hp → VK → Prop := fun xs H Q => match xs with
  | [.ref p] => ∃ ys, (SqL K H p ys ∧ ∀ l, H l = none → Q (.ref l) (upd H l (.tup ys))) ∨ (SqT K H p ys ∧ Q (.ref p) H)
  | _ => False
def zMax : List V → Hp → VK → Prop := fun xs H Q => match xs with
  | [.int i, .int j] => Q (.int (if j > i then j else i)) H
  | _ => False
def zMin : List V → Hp → VK → Prop := fun xs H Q => match xs with
  | [.int i, .int j] => Q (.int (if j < i then j else i)) H
  | _ => False
def zStrI : List V → Hp → VK → Prop := fun xs H Q => match xs with
  | [.int i] => i.natAbs.log2 < 1920 ∧ Q (.str (toString i)) H
  | _ => False
/-- all of a list of truth values -/
def zAll (K : PySem.W.Frag) : List V → Hp → VK → Prop := fun xs H Q => match xs with
  | [.ref a] => ∃ bs : List Bool, SqL K H a (bs.map V.bl) ∧ Q (.bl (bs.all id)) H
  | _ => False
def zSum (K : PySem.W.Frag) : List V → Hp → VK → Prop := fun xs H Q => match xs with
  | [.ref a] => ∃ ns : List Int, SqL K H a (ns.map V.int) ∧ Q (.int ns.sum) H
  | _ => False
section
variable {X : Cx}
theorem cr_int : CallR X (.type "int") zInt := CallR.imp call_int1 fun xs H Q q => by
  unfold zInt at q
  split at q
  · exact .inl ⟨_, rfl, q⟩
  · exact .inr ⟨_, rfl, q⟩
  · exact q.elim
theorem cr_abs : CallR X (.builtin "abs") zAbs := CallR.imp call_abs fun xs H Q q => by
  unfold zAbs at q
  split at q
  · exact ⟨_, rfl, q⟩
  · exact q.elim
theorem cr_len : CallR X (.builtin "len") (zLen X.K) := CallR.imp call_len fun xs H Q q => by
  unfold zLen at q
  split at q
  · obtain ⟨ys, h | h, q⟩ := q
    · exact ⟨_, _, rfl, .inl ⟨ys, h, rfl⟩, q⟩
    · exact ⟨_, _, rfl, .inr ⟨ys, h, rfl⟩, q⟩
  · exact ⟨_, _, rfl, ⟨q.1, rfl⟩, q.2⟩
  · exact q.elim
theorem cr_lenD : CallR X (.builtin "len") zLenD := CallR.imp call_lenD fun xs H Q q => by
  unfold zLenD at q
  split at q
  · obtain ⟨kvs, h, q⟩ := q
    exact ⟨_, kvs, rfl, h, q⟩
  · exact q.elim
theorem cr_list : CallR X (.type "list") (zList X.K) := CallR.imp call_list_of fun xs H Q q => by
  unfold zList at q
  split at q
  · obtain ⟨ys, h, q⟩ := q
    exact ⟨_, ys, rfl, h, q⟩
  · exact q.elim
theorem cr_tuple : CallR X (.type "tuple") (zTuple X.K) := CallR.imp call_tuple_of fun xs H Q q => by
  unfold zTuple at q
  split at q
  · obtain ⟨ys, q⟩ := q
    exact ⟨_, ys, rfl, q⟩
  · exact q.elim
theorem cr_max (hc : X.calm = true) : CallR X (.builtin "max") zMax := CallR.imp (call_max2 hc) fun xs H Q q => by
  unfold zMax at q
  split at q
  · exact ⟨_, _, rfl, q⟩
  · exact q.elim
theorem cr_min (hc : X.calm = true) : CallR X (.builtin "min") zMin := CallR.imp (call_min2 hc) fun xs H Q q => by
  unfold zMin at q
  split at q
  · exact ⟨_, _, rfl, q⟩
  · exact q.elim
theorem cr_strI : CallR X (.type "str") zStrI := CallR.imp call_str_int fun xs H Q q => by
  unfold zStrI at q
  split at q
  · exact ⟨_, rfl, q⟩
  · exact q.elim
end
/-! ### methods of built-in types -/
def zApp : V → List V → Hp → VK → Prop := fun x vs H Q => match x, vs with
  | .ref l, [y] => ∃ xs, H l = some (.lst xs) ∧ xs.length < sizeLine ∧ Q .non (upd H l (.lst (xs ++ [y])))
  | _, _ => False
def zPopAt : V → List V → Hp → VK → Prop := fun x vs H Q => match x, vs with
  | .ref l, [.int i] => ∃ xs k y, H l = some (.lst xs) ∧ -(2 ^ 63) ≤ i ∧ i < 2 ^ 63 ∧ seqIndex? i xs.length = some k ∧ xs[k]? = some y ∧ Q y (upd H l (.lst (xs.eraseIdx k)))
  | _, _ => False
def zPop : V → List V → Hp → VK → Prop := fun x vs H Q => match x, vs with
  | .ref l, [] => ∃ xs y, H l = some (.lst xs) ∧ xs[xs.length - 1]? = some y ∧ Q y (upd H l (.lst xs.dropLast))
  | _, _ => False
/-- sep.join(texts) -/
def zJoin (K : PySem.W.Frag) : V → List V → Hp → VK → Prop := fun x xs H Q => match x, xs with
  | .str a, [.ref p] => ∃ ys : List Str, (SqL K H p (ys.map V.str) ∨ SqT K H p (ys.map V.str)) ∧ (ys.map (·.length)).sum + ys.length * a.length ≤ 16777216 ∧ Q (.str (Txt.join a ys)) H
  | _, _ => False
/-- text.split(sep) -/
def zSplit : V → List V → Hp → VK → Prop := fun x xs H Q => match x, xs with
  | .str a, [.str b] => (b.length == 0) = false ∧ a.length + 2 ≤ sizeLine ∧ ∀ p, H p = none → Q (.ref p) (upd H p (.lst ((Txt.split a b).map V.str)))
  | _, _ => False
section
variable {X : Cx}
theorem mt_zApp : MtR X "list.append" zApp := MtR.imp mt_append fun x xs H Q q => by
  unfold zApp at q
  split at q
  · obtain ⟨xs, h1, h2, q⟩ := q
    exact ⟨_, xs, _, rfl, rfl, h1, h2, q⟩
  · exact q.elim
theorem mt_zPopAt : MtR X "list.pop" zPopAt := MtR.imp mt_popAt fun x xs H Q q => by
  unfold zPopAt at q
  split at q
  · obtain ⟨xs, k, y, h1, h2, h3, h4, h5, q⟩ := q
    exact ⟨_, xs, _, k, y, rfl, rfl, h1, h2, h3, h4, h5, q⟩
  · exact q.elim
theorem mt_zPop : MtR X "list.pop" zPop := MtR.imp mt_pop fun x xs H Q q => by
  unfold zPop at q
  split at q
  · obtain ⟨xs, y, h1, h2, q⟩ := q
    exact ⟨_, xs, y, rfl, rfl, h1, h2, q⟩
  · exact q.elim
theorem mt_zJoin : MtR X "str.join" (zJoin X.K) := MtR.imp mt_join fun x xs H Q q => by
  unfold zJoin at q
  split at q
  · obtain ⟨ys, h1, h2, q⟩ := q
    exact ⟨_, _, ys, rfl, rfl, h1, h2, q⟩
  · exact q.elim
theorem mt_zSplit : MtR X "str.split" zSplit := MtR.imp mt_split fun x xs H Q q => by
  unfold zSplit at q
  split at q
  · obtain ⟨h1, h2, q⟩ := q
    exact ⟨_, _, rfl, rfl, h1, h2, q⟩
  · exact q.elim
end
/-! ### slices -/
def zSlL (K : PySem.W.Frag) : V → Option Int → Option Int → Hp → VK → Prop := fun x lo hi H Q => match x with
  | .ref a => ∃ xs, SqL K H a xs ∧ ∀ p, H p = none → Q (.ref p) (upd H p (.lst (cutV xs lo hi)))
  | _ => False
def zSlT (K : PySem.W.Frag) : V → Option Int → Option Int → Hp → VK → Prop := fun x lo hi H Q => match x with
  | .ref a => ∃ xs, SqT K H a xs ∧ (HT.sIx xs.length 0 lo = 0 ∧ HT.sIx xs.length xs.length hi = xs.length → Q (.ref a) H) ∧
    (¬ (HT.sIx xs.length 0 lo = 0 ∧ HT.sIx xs.length xs.length hi = xs.length) → ∀ p, H p = none → Q (.ref p) (upd H p (.tup (cutV xs lo hi))))
  | _ => False
def zSlS : V → Option Int → Option Int → Hp → VK → Prop := fun x lo hi H Q => match x with
  | .str z => z.length ≤ sizeLine ∧ Q (.str (cutS z lo hi)) H
  | _ => False
section
variable {X : Cx}
theorem SlR.imp {r r' : V → Option Int → Option Int → Hp → VK → Prop} (h : SlR X r) (k : ∀ x lo hi H Q, r' x lo hi H Q → r x lo hi H Q) : SlR X r' := fun pins s σ H x v vl vu lo hi sl Q I rx hs pl pu q => h pins s σ H x v vl vu lo hi sl Q I rx hs pl pu (k x lo hi H Q q)
theorem sl_zL : SlR X (zSlL X.K) := SlR.imp sl_list fun x lo hi H Q q => by
  cases x <;> first | exact q.elim | skip
  obtain ⟨xs, h, q⟩ := q
  exact ⟨_, xs, rfl, h, q⟩
theorem sl_zT : SlR X (zSlT X.K) := SlR.imp sl_tupA fun x lo hi H Q q => by
  cases x <;> first | exact q.elim | skip
  obtain ⟨xs, h, q⟩ := q
  exact ⟨_, xs, rfl, h, q⟩
theorem sl_zS : SlR X zSlS := SlR.imp sl_str fun x lo hi H Q q => by
  cases x <;> first | exact q.elim | skip
  exact ⟨_, rfl, q.1, q.2⟩
end
/-! ### two or three names at once -/
def yPar (i j : Nat) (ta : TA) : TS := fun D σ H => ta σ H fun vs H1 => match vs with
  | [v, w] => D.nx ((σ.set i (some v)).set j (some w)) H1
  | _ => False
theorem ys_par {X : Cx} {i j : Nat} {st : Stmt} {ta : TA} (h : PS X st (tPar i j (upA ta))) : PS X st (yPar i j ta) :=
  PS.imp h fun D σ H q => ⟨_, q, fun vs H1 q1 => by
    match vs, q1 with
    | [v, w], q1 => exact ⟨v, w, rfl, q1⟩⟩
/-- x += e -/
def yAug (i : Nat) (te : TE) (ti : R2) : TS := fun D σ H => match σ[i]? with
  | some (some x) => te σ H fun y H1 => ti x y H1 fun z H2 => D.nx (σ.set i (some z)) H2
  | _ => False
theorem ys_aug {X : Cx} {i : Nat} {x : Str} {e : Expr} {te : TE} {op : Operator} {ti : R2} {pos' pos : Pos} (hN : X.N.Nodup) (hi : X.N[i]? = some x) (hx : Loc X.env.scope x) (he : PE X e te) (ho : OpR X (inplaceOp op) ti) (hf : X.fn x = true ∨ X.env.scope.names.lookup x = some .local := by first | exact .inl rfl | exact .inr rfl | assumption) :
    PS X (.AugAssign (.Name x pos') op e pos) (yAug i te ti) := PS.imp (ps_aug (ti := ti) hN hi hx he ho hf) fun D σ H q => by
  unfold yAug at q
  split at q
  · rename_i v e
    exact ⟨v, e, q⟩
  · exact q.elim
/-! ### callees -/
/-- a def of the module under its name -/
structure Cal (P : Program) (w : World) (K : PySem.W.Frag) (mg : Str → Option Value) (base : Heap) (x : Str) (k : Nat) (ps : List Str) (sp : Sp) : Prop where
  ex : ∃ f fd, FnOk P w K mg base (L2.CX P w) k f fd ps sp ∧ mg x = some (.ref f) ∧ PySem.W.keepIn K (.ref f) = true ∧ Binds K fd ps []
/-- f(..), what it raises goes to E -/
abbrev yCall (sp : Sp) (E : XK) (t : TA) : TE := fun σ H Q => t σ H fun vs H1 => sp vs H1 Q E
/-- f(..) whose exceptions are wished for at the slots -/
abbrev yCallS (sp : Sp) (W : WX) (t : TA) : TE := fun σ H Q => t σ H fun vs H1 => sp vs H1 Q fun cls d H' => W cls d σ H'
section
variable {X : Cx} {x : Str} {k : Nat} {ps : List Str} {sp : Sp} {t : TA} {e : Expr} {es : List Expr} {p pos : Pos}
theorem ye_call (F : Cal X.prog X.w X.K X.mg X.base x k ps sp) (hr : Room k X.A) (hg : Gl X x) (ha : PA X (e :: es) t) (hdb : (x == ("__debug__" : Str)) = false := by decide)
    (he : starEach (e :: es) X.env = (false, eval e X.env) :: starEach es X.env := by rfl) (hpl : (backTo pos (starEach es X.env)).any (·.1) = false := by rfl) : PE X (.Call (.Name x p) (e :: es) [] pos) (yCall sp E0 t) := by
  obtain ⟨f, fd, h1, h2, h3, h4⟩ := F.ex
  exact PE.imp (pe_call h1 hr hg h2 h3 h4 .nil passL (PA.up ha) hdb he hpl) fun σ H Q q => ⟨_, q, fun vs H' q' => by
    show sp (vs ++ []) H' Q E0
    rw [List.append_nil]
    exact q'⟩
theorem ye_call0 (F : Cal X.prog X.w X.K X.mg X.base x k ps sp) (hr : Room k X.A) (hg : Gl X x) (hdb : (x == ("__debug__" : Str)) = false := by decide) : PE X (.Call (.Name x p) [] [] pos) (yCall sp E0 tNil) := by
  obtain ⟨f, fd, h1, h2, h3, h4⟩ := F.ex
  exact pe_call0 h1 hr hg h2 h3 h4 .nil passL hdb
theorem ye_callS {W : WX} (F : Cal X.prog X.w X.K X.mg X.base x k ps sp) (tk : Takes X W) (hr : Room k X.A) (hg : Gl X x) (ha : PA X (e :: es) t) (hdb : (x == ("__debug__" : Str)) = false := by decide)
    (he : starEach (e :: es) X.env = (false, eval e X.env) :: starEach es X.env := by rfl) (hpl : (backTo pos (starEach es X.env)).any (·.1) = false := by rfl) : PE X (.Call (.Name x p) (e :: es) [] pos) (yCallS sp W t) := by
  obtain ⟨f, fd, h1, h2, h3, h4⟩ := F.ex
  exact pe_callS h1 hr hg h2 h3 h4 (fun σ => passAt tk σ) ha hdb he hpl
end
end Eb

/-! The source of the laws' draws. -/
namespace Eb
open PySem PySem.Spec PyProof.Rows L2
def penKvs (c : Addr) (t l : Int) : List (Key × V) := [(Sum.inr "cells", .ref c), (Sum.inr "turn", .int t), (Sum.inr "left", .int l)]
def isPen : HO → Prop
  | .dK kvs => ∃ c t l, kvs = penKvs c t l
  | _ => False
/-- all that is tracked stays, but what pens hold -/
def Kp (H H' : Hp) : Prop := ∀ b o, H b = some o → ∃ o', H' b = some o' ∧ (¬ isPen o → o' = o)
theorem Kp.keep {H H' : Hp} (k : Kp H H') {b : Addr} {o : HO} (h : H b = some o) (n : ¬ isPen o) : H' b = some o := by
  obtain ⟨o', e, q⟩ := k b o h
  rw [q n] at e
  exact e
theorem Kp.back {H H' : Hp} (k : Kp H H') {b : Addr} (h : H' b = none) : H b = none := by
  cases e : H b with
  | none => rfl
  | some o =>
    obtain ⟨o', e', _⟩ := k b o e
    rw [h] at e'
    cases e'
theorem Kp.refl (H : Hp) : Kp H H := fun _ o h => ⟨o, h, fun _ => rfl⟩
theorem Kp.trans {H H1 H2 : Hp} (a : Kp H H1) (b : Kp H1 H2) : Kp H H2 := fun c o h => by
  obtain ⟨o1, e1, q1⟩ := a c o h
  obtain ⟨o2, e2, q2⟩ := b c o1 e1
  exact ⟨o2, e2, fun n => by
    have z := q1 n
    subst z
    exact q2 n⟩
/-- an object that was not tracked at first is laid or changed -/
theorem Kp.mut {H H' : Hp} {p : Addr} {o : HO} (e : Kp H H') (h : H p = none) : Kp H (upd H' p o) := fun b u hb => by
  rw [upd_ne (ne_of_none hb h)]
  exact e b u hb
theorem Kp.new {H : Hp} {p : Addr} {o : HO} (h : H p = none) : Kp H (upd H p o) := (Kp.refl H).mut h
theorem Kp.of {H H' : Hp} (k : ∀ b o, H b = some o → H' b = some o) : Kp H H' := fun b o h => ⟨o, k b o h, fun _ => rfl⟩
theorem Kp.lst {H H' : Hp} (k : Kp H H') {a : Addr} {xs : List V} (h : H a = some (.lst xs)) : H' a = some (.lst xs) := k.keep h fun z => z
theorem Kp.tup {H H' : Hp} (k : Kp H H') {a : Addr} {xs : List V} (h : H a = some (.tup xs)) : H' a = some (.tup xs) := k.keep h fun z => z
theorem Kp.ins {H H' : Hp} (k : Kp H H') {a C dx : Addr} {fs : List (Str × V)} (h : H a = some (.ins C dx fs)) : H' a = some (.ins C dx fs) := k.keep h fun z => z
theorem Kp.frz {H H' : Hp} (k : Kp H H') {a : Addr} {o : Obj} {u : HO} (h : H a = some (.frz o u)) : H' a = some (.frz o u) := k.keep h fun z => z
theorem Kp.sqL {K : PySem.W.Frag} {H H' : Hp} {a : Addr} {xs : List V} (e : Kp H H') (h : SqL K H a xs) : SqL K H' a xs := by
  rcases h with (h | ⟨o, h⟩) | h
  · exact .inl (.inl (e.lst h))
  · exact .inl (.inr ⟨o, e.frz h⟩)
  · exact .inr h
theorem Kp.sqT {K : PySem.W.Frag} {H H' : Hp} {a : Addr} {xs : List V} (e : Kp H H') (h : SqT K H a xs) : SqT K H' a xs := by
  rcases h with (h | ⟨o, h⟩) | h
  · exact .inl (.inl (e.tup h))
  · exact .inl (.inr ⟨o, e.frz h⟩)
  · exact .inr h
theorem kc1 : ¬ (("cells" : Str) = "turn") := by decide +kernel
theorem kc2 : ¬ (("cells" : Str) = "left") := by decide +kernel
theorem kc3 : ¬ (("turn" : Str) = "left") := by decide +kernel
theorem kc4 : ¬ (("turn" : Str) = "cells") := by decide +kernel
theorem kc5 : ¬ (("left" : Str) = "cells") := by decide +kernel
theorem kc6 : ¬ (("left" : Str) = "turn") := by decide +kernel
section
variable {c : Addr} {t l i : Int}
theorem pen_cells : valV (penKvs c t l) (Sum.inr "cells") = some (.ref c) := by simp [valV, penKvs]
theorem pen_turn : valV (penKvs c t l) (Sum.inr "turn") = some (.int t) := by simp [valV, penKvs, kc1]
theorem pen_left : valV (penKvs c t l) (Sum.inr "left") = some (.int l) := by simp [valV, penKvs, kc2, kc3]
theorem pen_putL : putK (penKvs c t l) (Sum.inr "left") (.int i) = penKvs c t i := by simp [putK, penKvs, kc2, kc3]
theorem pen_putT : putK (penKvs c t l) (Sum.inr "turn") (.int i) = penKvs c i l := by simp [putK, penKvs, kc1, kc6]
theorem pen_small : (penKvs c t l).length < sizeLine := by show 3 < sizeLine; decide
end
/-- a pen stands at p, its cells at c; at most n draws were made -/
structure PenAt (H : Hp) (p c : Addr) (n : Nat) : Prop where
  ex : ∃ (t l : Int) (ns : List Int), H p = some (.dK (penKvs c t l)) ∧ H c = some (.lst (ns.map V.int)) ∧ 0 ≤ t ∧ t ≤ n
theorem PenAt.mono {H : Hp} {p c : Addr} {n m : Nat} (h : PenAt H p c n) (k : n ≤ m) : PenAt H p c m := by
  obtain ⟨t, l, ns, h1, h2, h3, h4⟩ := h.ex
  exact ⟨t, l, ns, h1, h2, h3, by omega⟩
theorem PenAt.mut {H : Hp} {p c q : Addr} {n : Nat} {o : HO} (h : PenAt H p c n) (hp : p ≠ q) (hc : c ≠ q) : PenAt (upd H q o) p c n := by
  obtain ⟨t, l, ns, h1, h2, h3, h4⟩ := h.ex
  exact ⟨t, l, ns, by rw [upd_ne hp]; exact h1, by rw [upd_ne hc]; exact h2, h3, h4⟩
theorem PenAt.ne {H : Hp} {p c q : Addr} {n : Nat} (h : PenAt H p c n) (hq : H q = none) : p ≠ q ∧ c ≠ q := by
  obtain ⟨t, l, ns, h1, h2, h3, h4⟩ := h.ex
  exact ⟨ne_of_none h1 hq, ne_of_none h2 hq⟩
theorem PenAt.new {H : Hp} {p c q : Addr} {n : Nat} {o : HO} (h : PenAt H p c n) (hq : H q = none) : PenAt (upd H q o) p c n := h.mut (h.ne hq).1 (h.ne hq).2
def dataV : V → PyData
  | .non => .none
  | .bl b => .bool b
  | .int i => .int i
  | .str x => .str x
  | _ => .none
theorem dpAll_flat {K : PySem.W.Frag} {H : Hp} : ∀ {xs : List V}, xs.all flatV = true → DpAll K H xs (xs.map dataV)
  | [], _ => .nil
  | x :: r, h => by
    have h2 : flatV x = true ∧ r.all flatV = true := by simpa using h
    refine .cons ?_ (dpAll_flat h2.2)
    cases x <;> first | exact .non | exact .bl _ | exact .int _ | exact .str _ | exact absurd h2.1 (by simp [flatV])
/-- a text that is data: its signs are signs -/
def okV : V → Bool
  | .str z => PyData.canLay0 (.str z)
  | _ => true
theorem lay_flat : ∀ {xs : List V}, xs.all okV = true → PyData.canLayAll0 (xs.map dataV) = true
  | [], _ => rfl
  | x :: r, h => by
    have h2 : okV x = true ∧ r.all okV = true := by simpa using h
    have ih := lay_flat h2.2
    show (PyData.canLay0 (dataV x) && PyData.canLayAll0 (r.map dataV)) = true
    rw [ih, Bool.and_true]
    cases x <;> first | rfl | exact h2.1
theorem depth_flat : ∀ xs : List V, PyData.depthAll (xs.map dataV) = 0
  | [] => rfl
  | x :: r => by
    show max (PyData.depth (dataV x)) (PyData.depthAll (r.map dataV)) = 0
    rw [depth_flat r]
    cases x <;> rfl
theorem shaped_flatL {xs : List V} (h : xs.all okV = true) : SeqAt.shaped (.list (xs.map dataV)) = true := by
  show (PyData.canLayAll0 (xs.map dataV) && decide (PyData.depthAll (xs.map dataV) + 1 ≤ 64)) = true
  rw [lay_flat h, depth_flat] <;> rfl
theorem shaped_flatT {xs : List V} (h : xs.all okV = true) : SeqAt.shaped (.tuple (xs.map dataV)) = true := by
  show (PyData.canLayAll0 (xs.map dataV) && decide (PyData.depthAll (xs.map dataV) + 1 ≤ 64)) = true
  rw [lay_flat h, depth_flat] <;> rfl
theorem all_ints {ns : List Int} : (ns.map V.int).all flatV = true := by simp [flatV]
theorem ok_ints {ns : List Int} : (ns.map V.int).all okV = true := by simp [okV]
/-! ### a draw -/
def sp_draw (_ : PySem.W.Frag) : Sp := fun vs H Q _ => ∃ (p c : Addr) (n : Nat) (s : Int), vs = [.ref p, .int s] ∧ PenAt H p c n ∧ n < 1152921504606846976 ∧ 0 < s ∧ s.natAbs.log2 < 9000 ∧
  ∀ (r : Int) (H' : Hp), 0 ≤ r → r < s → Kp H H' → PenAt H' p c (n + 1) → Q (.int r) H'
def N_draw : List Str := ["_law_pen", "_law_span", "_law_digit", "_law_turn", "_law_cell", "_law_mixed"]
def t_draw (K : PySem.W.Frag) (E : XK) : TS :=
  (tSeq (yIf (yTst (tOp zGt (yDGet (yVar 0) (tC (.str "left"))) (tC (.int 0)))) (tSeq (tAsg (tOp zMod (tCB zInt (tCons (yDGet (yVar 0) (tC (.str "left"))) tNil)) (yVar 1)) (gName 2))
    (tSeq (yDPut (yVar 0) (tC (.str "left")) (tOp zDiv (yDGet (yVar 0) (tC (.str "left"))) (yVar 1)))
    (tRet (yVar 2)))) tNext)
    (tSeq (tAsg (yDGet (yVar 0) (tC (.str "turn"))) (gName 3))
    (tSeq (yDPut (yVar 0) (tC (.str "turn")) (tOp zAdd (yVar 3) (tC (.int 1))))
    (tSeq (tAsg (tOp zAdd (tOp zMul (tC (.int 61)) (yVar 3)) (tC (.int 13))) (gName 4))
    (yCut (yIf (yTst (tOp (zNeD K) (yDGet (yVar 0) (tC (.str "cells"))) (tLst tNil))) (tAsg (tOp (zIxL K) (yDGet (yVar 0) (tC (.str "cells"))) (tOp zMod (tCB zInt (tCons (yVar 3) tNil)) (tCB (zLen K) (tCons (yDGet (yVar 0) (tC (.str "cells"))) tNil)))) (gName 4)) tNext)
    (tSeq (yIf (yAnd (yTst (tOp zLt (yVar 3) (tCB (zLen K) (tCons (yDGet (yVar 0) (tC (.str "cells"))) tNil)))) (yTst (tOp zGe (tCB zAbs (tCons (yVar 4) tNil)) (tOp zPow (tC (.int 10)) (tC (.int 18)))))) (tSeq (yDPut (yVar 0) (tC (.str "left")) (tOp zDiv (tOp zSub (tCB zAbs (tCons (yVar 4) tNil)) (tOp zPow (tC (.int 10)) (tC (.int 18)))) (yVar 1)))
    (tRet (tOp zMod (tCB zInt (tCons (tOp zSub (tCB zAbs (tCons (yVar 4) tNil)) (tOp zPow (tC (.int 10)) (tC (.int 18)))) tNil)) (yVar 1)))) tNext)
    (tSeq (tAsg (tOp zMul (tOp zMod (tCB zInt (tCons (yVar 4) tNil)) (tC (.int 4294967087))) (tC (.int 48611))) (gName 5))
    (tSeq (tAsg (tOp zMod (tCB zInt (tCons (tOp zAdd (tOp zAdd (yVar 5) (tOp zMul (yVar 3) (tOp zAdd (tOp zMul (yVar 3) (tC (.int 27919))) (tC (.int 10601))))) (tC (.int 41))) tNil)) (tC (.int 4294967029))) (gName 5))
    (tSeq (tAsg (tOp zMod (tCB zInt (tCons (tOp zMul (yVar 5) (tOp zAdd (yVar 5) (tC (.int 75013)))) tNil)) (tC (.int 4294966997))) (gName 5))
    (tSeq (tAsg (tOp zMod (tCB zInt (tCons (tOp zAdd (tOp zAdd (tOp zMul (yVar 5) (yVar 5)) (tOp zMul (tC (.int 30427)) (yVar 5))) (tOp zMul (tC (.int 19)) (yVar 3))) tNil)) (tC (.int 4294966981))) (gName 5))
    (tRet (tOp zMod (tCB zInt (tCons (tOp zDiv (tOp zMod (tCB zInt (tCons (tOp zMul (yVar 5) (tOp zAdd (yVar 5) (tC (.int 58111)))) tNil)) (tC (.int 4294966943))) (tC (.int 64))) tNil)) (yVar 1)))))))))))))
def t_draw_end : TS :=
    (tSeq (tAsg (tOp zMul (tOp zMod (tCB zInt (tCons (yVar 4) tNil)) (tC (.int 4294967087))) (tC (.int 48611))) (gName 5))
    (tSeq (tAsg (tOp zMod (tCB zInt (tCons (tOp zAdd (tOp zAdd (yVar 5) (tOp zMul (yVar 3) (tOp zAdd (tOp zMul (yVar 3) (tC (.int 27919))) (tC (.int 10601))))) (tC (.int 41))) tNil)) (tC (.int 4294967029))) (gName 5))
    (tSeq (tAsg (tOp zMod (tCB zInt (tCons (tOp zMul (yVar 5) (tOp zAdd (yVar 5) (tC (.int 75013)))) tNil)) (tC (.int 4294966997))) (gName 5))
    (tSeq (tAsg (tOp zMod (tCB zInt (tCons (tOp zAdd (tOp zAdd (tOp zMul (yVar 5) (yVar 5)) (tOp zMul (tC (.int 30427)) (yVar 5))) (tOp zMul (tC (.int 19)) (yVar 3))) tNil)) (tC (.int 4294966981))) (gName 5))
    (tRet (tOp zMod (tCB zInt (tCons (tOp zDiv (tOp zMod (tCB zInt (tCons (tOp zMul (yVar 5) (tOp zAdd (yVar 5) (tC (.int 58111)))) tNil)) (tC (.int 4294966943))) (tC (.int 64))) tNil)) (yVar 1)))))))
abbrev dEnd (Q : VK) : Ends := { nx := fun _ H' => Q .non H', rt := Q }
theorem pow18 : CPow 10 18 := by unfold CPow; decide
theorem small_mod {x m : Int} (h : 0 < m) (h2 : m < 2 ^ 40) : -(2 ^ 64) < x % m ∧ x % m < 2 ^ 64 := by
  have h1 := Int.emod_nonneg x (Int.ne_of_gt h)
  have h3 := Int.emod_lt_of_pos x h
  omega
theorem pure_draw {K : PySem.W.Frag} {vs : List V} {H : Hp} {Q : VK} {E : XK} (h : sp_draw K vs H Q E) : t_draw K E (dEnd Q) (start N_draw vs) H := by
  obtain ⟨p, c, n, s, rfl, hP, hn2, hs, hs2, k⟩ := h
  obtain ⟨t, l, ns, hp, hc, h0, hn⟩ := hP.ex
  have hcp : c ≠ p := ne_of hc hp (by intro z; cases z)
  have kpm : ∀ {H1 : Hp} o, Kp H H1 → Kp H (upd H1 p o) := fun {H1} o k b u e => by
    by_cases hb : b = p
    · subst hb
      refine ⟨o, upd_same, fun n => ?_⟩
      rw [hp] at e
      cases e
      exact absurd ⟨_, _, _, rfl⟩ n
    · rw [upd_ne hb]
      exact k b u e
  have kp : ∀ o, Kp H (upd H p o) := fun o => kpm o (Kp.refl H)
  have fin : ∀ (t' l' r : Int), 0 ≤ t' → t' ≤ (n + 1 : Nat) → ∀ H', Kp H H' → H' p = some (.dK (penKvs c t' l')) → 0 ≤ r → r < s → Q (.int r) H' := fun t' l' r h1 h2 H' k' e h3 h4 =>
    k r H' h3 h4 k' ⟨t', l', ns, e, k'.lst hc, h1, h2⟩
  refine ⟨_, _, .inl hp, pen_left, brD (fun hl => ?_) fun hl => ?_⟩
  · refine ⟨_, _, .inl hp, pen_left, hs, _, _, .inl hp, pen_left, ⟨hs, hs2⟩, _, hp, pen_small, ?_⟩
    exact fin t (l / s) (l % s) h0 (by omega) _ (kp _) (by rw [upd_same, pen_putL]) (Int.emod_nonneg _ (Int.ne_of_gt hs)) (Int.emod_lt_of_pos _ hs)
  · have q1 : ∀ v : V, (upd H p (.dK (putK (penKvs c t l) (Sum.inr "turn") v))) p = some (.dK (putK (penKvs c t l) (Sum.inr "turn") v)) := fun v => upd_same
    refine ⟨_, _, .inl hp, pen_turn, _, hp, pen_small, ?_⟩
    have e1 : (upd H p (.dK (putK (penKvs c t l) (Sum.inr "turn") (.int (t + 1))))) p = some (.dK (penKvs c (t + 1) l)) := by rw [upd_same, pen_putT]
    have e2 : (upd H p (.dK (putK (penKvs c t l) (Sum.inr "turn") (.int (t + 1))))) c = some (.lst (ns.map V.int)) := by rw [upd_ne hcp]; exact hc
    have k1 := kp (.dK (putK (penKvs c t l) (Sum.inr "turn") (.int (t + 1))))
    generalize upd H p (.dK (putK (penKvs c t l) (Sum.inr "turn") (.int (t + 1)))) = H1 at e1 e2 k1 ⊢
    have ht : -(2 ^ 64) < t ∧ t < 2 ^ 64 := by omega
    refine ⟨.inr ht, fun σ' H' => ∃ x : Int, σ' = [some (.ref p), some (.int s), none, some (.int t), some (.int x), none] ∧ Kp H H' ∧ H' p = some (.dK (penKvs c (t + 1) l)) ∧ H' c = some (.lst (ns.map V.int)), ?_, ?_⟩
    · refine ⟨_, _, .inl e1, pen_cells, Nat.zero_le _, fun q hq => ?_⟩
      have k2 : Kp H (upd H1 q (.lst [])) := k1.trans (Kp.new hq)
      have e3 : (upd H1 q (.lst [])) p = some (.dK (penKvs c (t + 1) l)) := by rw [upd_ne (ne_of_none e1 hq)]; exact e1
      have e4 : (upd H1 q (.lst [])) c = some (.lst (ns.map V.int)) := by rw [upd_ne (ne_of_none e2 hq)]; exact e2
      refine ⟨.list ((ns.map V.int).map dataV), .list [], .lst (SqL.of e4) (dpAll_flat all_ints), .lst (SqL.of upd_same) .nil, shaped_flatL ok_ints, by decide, ?_⟩
      · cases ns with
        | nil => exact brF (by decide) ⟨_, rfl, k2, e3, e4⟩
        | cons z r =>
          refine brT (by simp [PyData.eqv, PyData.eqvAll]) ?_
          have hl : (0 : Int) < (((z :: r).map V.int).length : Nat) := by simp
          obtain ⟨j, hj⟩ : ∃ j : Nat, t % ((((z :: r).map V.int).length : Nat) : Int) = (j : Int) := ⟨_, (Int.toNat_of_nonneg (Int.emod_nonneg _ (Int.ne_of_gt hl))).symm⟩
          have hjl : j < (z :: r).length := by
            have q := Int.emod_lt_of_pos t hl
            rw [hj, List.length_map] at q
            omega
          refine ⟨_, _, .inl e3, pen_cells, _, _, .inl e3, pen_cells, _, .inl (SqL.of e4), hl, _, .int ((z :: r)[j]'hjl), .inl (SqL.of e4), ?_, _, rfl, k2, e3, e4⟩
          show atI ((z :: r).map V.int) (t % ((((z :: r).map V.int).length : Nat) : Int)) = _
          rw [hj]
          refine atI_nat ?_
          rw [List.getElem?_map, List.getElem?_eq_getElem hjl]
          rfl
    · rintro σ' H' ⟨x, rfl, k3, e3, e4⟩
      have last : t_draw_end (dEnd Q) [some (.ref p), some (.int s), none, some (.int t), some (.int x), none] H' := by
        have m1 := small_mod (x := x) (m := 4294967087) (by decide) (by decide)
        refine ⟨by decide, .inl m1, .inl ht, .inl ht, by decide, ?_⟩
        generalize x % 4294967087 * 48611 + t * (t * 27919 + 10601) + 41 = y
        have m2 := small_mod (x := y) (m := 4294967029) (by decide) (by decide)
        refine ⟨.inl m2, by decide, ?_⟩
        generalize y % 4294967029 * (y % 4294967029 + 75013) = y
        have m3 := small_mod (x := y) (m := 4294966997) (by decide) (by decide)
        refine ⟨.inl m3, .inl (by decide), .inl (by decide), by decide, ?_⟩
        generalize y % 4294966997 * (y % 4294966997) + 30427 * (y % 4294966997) + 19 * t = y
        have m4 := small_mod (x := y) (m := 4294966981) (by decide) (by decide)
        refine ⟨.inl m4, by decide, ⟨by decide, by decide +kernel⟩, hs, ?_⟩
        exact fin (t + 1) l _ (by omega) (by omega) _ k3 e3 (Int.emod_nonneg _ (Int.ne_of_gt hs)) (Int.emod_lt_of_pos _ hs)
      refine ⟨_, _, .inl e3, pen_cells, _, .inl (SqL.of e4), br (fun hb => ?_) fun hb => ?_⟩
      · refine ⟨pow18, brD (fun hc2 => ?_) fun hc2 => ?_⟩
        · generalize (if x < 0 then -x else x) = a
          refine ⟨pow18, ⟨hs, hs2⟩, _, e3, pen_small, pow18, hs, ?_⟩
          refine fin (t + 1) _ _ (by omega) (by omega) _ (kpm _ k3) (by rw [upd_same, pen_putL]) (Int.emod_nonneg _ (Int.ne_of_gt hs)) (Int.emod_lt_of_pos _ hs)
        · exact last
      · exact brF rfl last
theorem len_draw {K : PySem.W.Frag} {vs : List V} {H : Hp} {Q : VK} {E : XK} (h : sp_draw K vs H Q E) : vs.length = 2 := by
  obtain ⟨p, c, n, s, rfl, _⟩ := h
  rfl
theorem tyL {K : PySem.W.Frag} {H : Hp} {a : Addr} {xs : List V} (h : H a = some (.lst xs)) : tyV K "list" (.ref a) H := .inl ⟨rfl, xs, SqL.of h⟩
theorem log_small {n : Nat} (h : n < 2 ^ 60) : ((n : Nat) : Int).natAbs.log2 < 9000 := by
  by_cases h0 : n = 0
  · subst h0
    decide
  · have q := (Nat.log2_lt (n := n) h0 (k := 60)).mpr h
    show n.log2 < 9000
    omega
theorem perm_erase {α : Type} : ∀ (l : List α) (i : Nat) (h : i < l.length), ([l[i]] ++ l.eraseIdx i).Perm l
  | a :: r, 0, _ => List.Perm.refl _
  | a :: r, i + 1, h => by
    have q := perm_erase r i (Nat.lt_of_succ_lt_succ h)
    show (r[i]'(Nat.lt_of_succ_lt_succ h) :: a :: r.eraseIdx i).Perm (a :: r)
    exact (List.Perm.swap a (r[i]'(Nat.lt_of_succ_lt_succ h)) _).trans (q.cons a)
/-! ### the items in a drawn order -/
def sp_shuffled (K : PySem.W.Frag) : Sp := fun vs H Q _ => ∃ (p c : Addr) (n : Nat) (a : Addr) (xs : List V), vs = [.ref p, .ref a] ∧ PenAt H p c n ∧ n + xs.length < 1152921504606846976 ∧ SqL K H a xs ∧ xs.length ≤ 100000 ∧ xs.all flatV = true ∧ xs.all okV = true ∧
  ∀ (ys : List V) (r : Addr) (H' : Hp), ys.Perm xs → Kp H H' → H r = none → H' r = some (.lst ys) → PenAt H' p c (n + xs.length) → Q (.ref r) H'
theorem len_shuffled {K : PySem.W.Frag} {vs : List V} {H : Hp} {Q : VK} {E : XK} (h : sp_shuffled K vs H Q E) : vs.length = 2 := by
  obtain ⟨p, c, n, a, xs, rfl, _⟩ := h
  rfl
def N_shuffled : List Str := ["_law_pen", "_law_items", "_law_rest", "_law_found"]
def t_shuffled (K : PySem.W.Frag) (E : XK) : TS :=
  (tSeq (yPar 2 3 (tCons (tCB (zList K) (tCons (yVar 1) tNil)) (tCons (tLst tNil) tNil)))
    (tSeq (yWhile (yTst (tOp (zNeD K) (yVar 2) (tLst tNil))) (tDrop (tBM K "list" zApp (yVar 3) (tCons (tBM K "list" zPopAt (yVar 2) (tCons (yCall (sp_draw K) E0 (tCons (yVar 0) (tCons (tCB (zLen K) (tCons (yVar 2) tNil)) tNil))) tNil)) tNil))))
    (tRet (yVar 3))))
theorem pure_shuffled {K : PySem.W.Frag} {vs : List V} {H : Hp} {Q : VK} {E : XK} (h : sp_shuffled K vs H Q E) : t_shuffled K E (dEnd Q) (start N_shuffled vs) H := by
  obtain ⟨p, c, n, a, xs, rfl, hP, hn, hS, hx, hf, ho, k⟩ := h
  refine ⟨xs, .inl hS, fun ρ hρ => ⟨Nat.zero_le _, fun φ hφ => ?_⟩⟩
  have hφ0 : H φ = none := (Kp.new hρ).back hφ
  have nρφ : ρ ≠ φ := fun z => by
    rw [← z, upd_same] at hφ
    cases hφ
  refine ⟨fun m σ H' => ∃ zs ws : List V, σ = [some (.ref p), some (.ref a), some (.ref ρ), some (.ref φ)] ∧ m = zs.length ∧ Kp H H' ∧ H' ρ = some (.lst zs) ∧ H' φ = some (.lst ws) ∧ (ws ++ zs).Perm xs ∧ PenAt H' p c (n + ws.length),
    ⟨_, xs, [], rfl, rfl, (Kp.new hρ).trans (Kp.new hφ), by rw [upd_ne nρφ, upd_same], upd_same, by simp, (hP.new hρ).new hφ⟩, ?_⟩
  rintro m σ H1 ⟨zs, ws, rfl, rfl, k1, h1, h2, hp, P1⟩
  have hall : ∀ z ∈ zs, z ∈ xs := fun z hz => hp.subset (List.mem_append_right _ hz)
  have hzf : zs.all flatV = true := List.all_eq_true.mpr fun z hz => List.all_eq_true.mp hf z (hall z hz)
  have hzo : zs.all okV = true := List.all_eq_true.mpr fun z hz => List.all_eq_true.mp ho z (hall z hz)
  have hlen : ws.length + zs.length = xs.length := by
    have q := hp.length_eq
    rw [List.length_append] at q
    exact q
  refine ⟨Nat.zero_le _, fun e he => ?_⟩
  have k2 : Kp H (upd H1 e (.lst [])) := k1.trans (Kp.new he)
  have h1' : (upd H1 e (.lst [])) ρ = some (.lst zs) := by rw [upd_ne (ne_of_none h1 he)]; exact h1
  have h2' : (upd H1 e (.lst [])) φ = some (.lst ws) := by rw [upd_ne (ne_of_none h2 he)]; exact h2
  have P2 : PenAt (upd H1 e (.lst [])) p c (n + ws.length) := P1.new he
  refine ⟨.list (zs.map dataV), .list [], .lst (SqL.of h1') (dpAll_flat hzf), .lst (SqL.of upd_same) .nil, shaped_flatL hzo, by decide, ?_⟩
  cases zs with
  | nil =>
    refine brF (by decide) ?_
    have e0 : ws.length = xs.length := by simpa using hlen
    rw [e0] at P2
    exact k ws φ _ (by simpa using hp) k2 hφ0 h2' P2
  | cons z r =>
    refine brT (by simp [PyData.eqv, PyData.eqvAll]) ?_
    have hl : (z :: r).length = r.length + 1 := rfl
    refine ⟨tyL h2', tyL h1', _, .inl (SqL.of h1'), p, c, _, _, rfl, P2, by omega, by omega, log_small (by omega), fun d H2 hd0 hd1 k3 P3 => ?_⟩
    have hd : d.toNat < (z :: r).length := by omega
    have g1 : H2 ρ = some (.lst (z :: r)) := k3.lst h1'
    have g2 : H2 φ = some (.lst ws) := k3.lst h2'
    refine ⟨z :: r, d.toNat, (z :: r)[d.toNat], g1, by omega, by omega, seqIndex_of hd0 (by omega), List.getElem?_eq_getElem hd, ws, by rw [upd_ne nρφ.symm]; exact g2, ?_, ?_⟩
    · refine Nat.lt_of_le_of_lt (m := 100000) (by omega) (by decide)
    · refine ⟨((z :: r).eraseIdx d.toNat).length, ?_, (z :: r).eraseIdx d.toNat, ws ++ [(z :: r)[d.toNat]], rfl, rfl, ?_, ?_, upd_same, ?_, ?_⟩
      · rw [List.length_eraseIdx_of_lt hd]
        omega
      · exact ((k2.trans k3).mut hρ).mut hφ0
      · rw [upd_ne nρφ, upd_same]
      · refine List.Perm.trans ?_ hp
        rw [List.append_assoc]
        refine List.Perm.append_left ws ?_
        exact perm_erase _ _ hd
      · have np := hP.ne hρ
        have nq := hP.ne hφ0
        have q := (P3.mut (o := .lst ((z :: r).eraseIdx d.toNat)) np.1 np.2).mut (o := .lst (ws ++ [(z :: r)[d.toNat]])) nq.1 nq.2
        rw [List.length_append]
        exact q
/-! ### names -/
def NAMES : List Str := ["a", "b", "x", "y", "top", "low", "lefty", "ends", "abcdefghijkl", "filling", "jumps", "alls"]
/-- some names that differ: as many as asked, twelve at most -/
def sp_new_names (_ : PySem.W.Frag) : Sp := fun vs H Q _ => ∃ (p c : Addr) (n : Nat) (m : Nat), vs = [.ref p, .int (m : Int)] ∧ PenAt H p c n ∧ n + 12 < 1152921504606846976 ∧
  ∀ (ys : List Str) (r : Addr) (H' : Hp), ys.Nodup → (∀ y ∈ ys, y ∈ NAMES) → ys.length = min m 12 → Kp H H' → H r = none → H' r = some (.lst (ys.map V.str)) → PenAt H' p c (n + 12) → Q (.ref r) H'
theorem len_new_names {K : PySem.W.Frag} {vs : List V} {H : Hp} {Q : VK} {E : XK} (h : sp_new_names K vs H Q E) : vs.length = 2 := by
  obtain ⟨p, c, n, a, rfl, _⟩ := h
  rfl
theorem names_nodup : NAMES.Nodup := by decide +kernel
theorem names_flat : (NAMES.map V.str).all flatV = true := by simp [flatV]
theorem names_ok : (NAMES.map V.str).all okV = true := by decide +kernel
theorem strs_of {xs : List Str} {ys : List V} (h : ys.Perm (xs.map V.str)) : ∃ zs : List Str, ys = zs.map V.str ∧ zs.Perm xs := by
  have key : ∀ l : List V, (∀ y ∈ l, ∃ z, y = V.str z) → ∃ zs : List Str, l = zs.map V.str := by
    intro l
    induction l with
    | nil => exact fun _ => ⟨[], rfl⟩
    | cons y r ih =>
      intro hl
      obtain ⟨z, rfl⟩ := hl y (List.mem_cons_self ..)
      obtain ⟨zs, rfl⟩ := ih fun y hy => hl y (List.mem_cons_of_mem _ hy)
      exact ⟨z :: zs, rfl⟩
  obtain ⟨zs, rfl⟩ := key ys fun y hy => by
    obtain ⟨z, _, e⟩ := List.mem_map.mp (h.subset hy)
    exact ⟨z, e.symm⟩
  refine ⟨zs, rfl, ?_⟩
  have inj : ∀ l : List Str, (l.map V.str).filterMap (fun v => match v with | .str z => some z | _ => none) = l := by
    intro l
    induction l with
    | nil => rfl
    | cons a r ih => simp [ih]
  have q := h.filterMap (fun v => match v with | .str z => some z | _ => none)
  rw [inj, inj] at q
  exact q
def N_new_names : List Str := ["_law_pen", "_law_many", "_law_found"]
def t_new_names (K : PySem.W.Frag) (E : XK) : TS :=
  (tSeq (tAsg (tLst (tCons (tC (.str "a")) (tCons (tC (.str "b")) (tCons (tC (.str "x")) (tCons (tC (.str "y")) (tCons (tC (.str "top")) (tCons (tC (.str "low")) (tCons (tC (.str "lefty")) (tCons (tC (.str "ends")) (tCons (tC (.str "abcdefghijkl")) (tCons (tC (.str "filling")) (tCons (tC (.str "jumps")) (tCons (tC (.str "alls")) tNil))))))))))))) (gName 2))
    (tRet (tSl (zSlL K) (yCall (sp_shuffled K) E0 (tCons (yVar 0) (tCons (yVar 2) tNil))) tNoPart (tPart (yVar 1)))))
theorem pure_new_names {K : PySem.W.Frag} {vs : List V} {H : Hp} {Q : VK} {E : XK} (h : sp_new_names K vs H Q E) : t_new_names K E (dEnd Q) (start N_new_names vs) H := by
  obtain ⟨p, c, n, m, rfl, hP, hn, k⟩ := h
  refine ⟨by decide, fun f hf => ?_⟩
  have ef : (upd H f (.lst (NAMES.map V.str))) f = some (.lst (NAMES.map V.str)) := upd_same
  refine ⟨p, c, n, f, NAMES.map V.str, rfl, hP.new hf, hn, SqL.of ef, by decide, names_flat, names_ok, fun ys r H1 hp k1 hr h1 P1 => ?_⟩
  obtain ⟨zs, rfl, hz⟩ := strs_of hp
  have hnd : zs.Nodup := hz.nodup_iff.mpr names_nodup
  have hl : zs.length = 12 := hz.length_eq
  refine ⟨_, rfl, _, SqL.of h1, fun q hq => ?_⟩
  have ec : cutV (zs.map V.str) none (some (m : Int)) = (zs.take m).map V.str := by
    unfold cutV
    rw [HT.sIx_none, HT.sIx_nat, List.length_map, hl, List.drop_zero, Nat.sub_zero, List.map_take]
    by_cases hm : m ≤ 12
    · rw [Nat.min_eq_left hm]
    · rw [Nat.min_eq_right (by omega), List.take_of_length_le (by simp [hl]), List.take_of_length_le (by simp [hl]; omega)]
  rw [ec]
  refine k (zs.take m) q _ (hnd.sublist (List.take_sublist ..)) (fun y hy => hz.subset (List.mem_of_mem_take hy)) (by rw [List.length_take, hl]) (((Kp.new hf).trans k1).trans (Kp.new hq)) (((Kp.new hf).trans k1).back hq) upd_same (P1.new hq)
end Eb

namespace Eb
open PySem PySem.Spec PyProof.Rows L2
/-! ### the wrapper of ValueError.__init__, called -/
section
open PySem.W PySem.Calls
variable {prog : Program} {w : World} {A : Around} {E : Value → Shared → Prop} {h : Heap} {g : Array GenState} {d : Drawn} {t : Nat} {os : OsState}
theorem call_mw {nm q : Str} {C N : Addr} {bs bm : List Value} {hdct : Bool} {sn : List Str} {sub : List Value} {ab : Bool} {col : Option Bool} {dd : Option Addr} {k0 k1 k2 k3 k5 : Option Value} {u e t0 : Addr} {rest : List Value} {Q : Value → Shared → Prop}
    (hC : h.get? C = some (excClassObj nm q C N bs bm hdct sn sub ab col dd k0 k1 k2 k3 k5 "ValueError.__new__")) (he : h.get? e = some (PySem.HandSPX.excO C t0)) (hu : h.get? u = some (kxs_mw "ValueError.__init__" e)) (hrest : rest.length ≤ sizeLine)
    (hq : ∀ h' t1, (∀ b o, b ≠ e → h.get? b = some o → h'.get? b = some o) → h'.get? e = some (PySem.HandSPX.excO C t1) → Q .none ⟨h', g, d, t, os⟩) :
    wpAny (model prog w) A (call (.ref u) rest) Q E ⟨h, g, d, t, os⟩ := by
  refine wpAny_call (codeAny_of_tree ?_)
  show wpAny _ A.in1 (callAny (.ref u) ⟨rest, []⟩) _ _ _
  simp only [callAny]
  refine wpAny_bind (wpAny_load hu ?_)
  simp only [kxs_mw, show (Value.type "method-wrapper" == Value.type "method" || Value.type "method-wrapper" == Value.type "builtin_function_or_method" || Value.type "method-wrapper" == Value.type "method-wrapper") = true by decide, if_true]
  refine PySem.W.KFB.if_so (by decide) ?_
  refine wpAny_bind (PySem.ESX.check_bound F.excBase_ValueError hC he rfl ?_)
  refine wpAny_bind (wpAny_pure (wpAny_pure ?_))
  refine ⟨Code.quiet_builtin _ (by decide +kernel), codeAny_builtin F.excBase_ValueError.initEntry ?_⟩
  rw [Around.under_plainId F.excBase_ValueError.init.plain _]
  wp_walk
  refine hq _ h.objs.size (fun b o hb ho => ?_) ?_
  · rw [Heap.get?_update_other _ _ (Ne.symm hb)]
    exact Heap.get?_push_of_some _ ho
  · rw [Heap.get?_update_self _ (Heap.get?_push_of_some _ he) rfl]
    rfl
end
/-! ### a further pin -/
theorem inv_pin {X : Cx} {pins : List (Addr × Obj)} {σ : L2.St} {H : Hp} {s : Shared} {h' : Heap} {t' : Nat} {u : Addr} {o : Obj} (I : Inv X pins σ H s) (k : ∀ b x, s.heap.get? b = some x → h'.get? b = some x) (hu : s.heap.objs.size ≤ u)
    (e : h'.get? u = some o) (hd : ∀ v, o.data ≠ .cell v) : Inv X ((u, o) :: pins) σ H { s with heap := h', toks := t' } := by
  have J : Inv X pins σ H { s with heap := h', toks := t' } := I.un (Un.kept k) (I.hok.kept k)
  refine ⟨J.ok, J.os, J.bare, J.base, J.loc, J.cell, J.free, J.freeC, fun p hp => ?_, J.hok, J.len⟩
  rcases List.mem_append.mp hp with hp | hp
  · exact J.pin p (List.mem_append_left _ hp)
  · rcases List.mem_cons.mp hp with rfl | hp
    · exact ⟨e, I.hok.fresh hu, fun z => absurd I.lt (by show ¬ _ < _; rw [← z]; exact Nat.not_lt.mpr hu), I.nofs hu, hd⟩
    · exact J.pin p (List.mem_append_right _ hp)
theorem inv_unpin {X : Cx} {pins : List (Addr × Obj)} {q : Addr × Obj} {σ : L2.St} {H : Hp} {s : Shared} (I : Inv X (q :: pins) σ H s) : Inv X pins σ H s :=
  ⟨I.ok, I.os, I.bare, I.base, I.loc, I.cell, I.free, I.freeC, fun p hp => I.pin p (by
    rcases List.mem_append.mp hp with hp | hp
    · exact List.mem_append_left _ hp
    · exact List.mem_append_right _ (List.mem_cons_of_mem _ hp)), I.hok, I.len⟩
/-! ### an __init__ that says super().__init__(..) first -/
/-- its scope -/
structure XScope (N P : List Str) (sc : Scope) : Prop where
  kind : sc.kind = .function
  co : sc.isCoroutine = false
  gen : sc.isGenerator = false
  nd : N.Nodup
  pre : N.take P.length = P
  par : ∀ x ∈ P, sc.names.lookup x = some .local
  nocell : ∀ y ∈ sc.names, y.2 ≠ .cell
  free : ∀ y ∈ sc.names, y.2 = .free → y.1 = "__class__"
  cls : sc.names.lookup ("__class__" : Str) = some .free
  sup : sc.names.lookup ("super" : Str) = some .globalImplicit
/-- its context -/
def xcCx (CX : CXT) (P : Program) (w : World) (K : PySem.W.Frag) (mg : Str → Option Value) (base : Heap) (N : List Str) (qual : Str) (scope : Scope) (f cda cc : Addr) (A : Around) (outer : List Env) (s : Shared) (H : Hp) (E : XK) : Cx where
  prog := P
  w := w
  K := K
  mg := mg
  base := base
  A := A.deeper (PySem.W.ksEnv qual scope s.heap.objs.size f (.ref cda) cc)
  N := N
  s_0 := s
  H_0 := H
  env := PySem.W.ksEnv qual scope s.heap.objs.size f (.ref cda) cc
  outer := outer
  stack := PySem.W.ksEnv qual scope s.heap.objs.size f (.ref cda) cc :: outer
  ex := []
  calm := true
  fn := fun _ => false
  pn := []
  xe := fun e s' => wpAny (model P w) (A.deeper (PySem.W.ksEnv qual scope s.heap.objs.size f (.ref cda) cc)) (leaving (PySem.W.ksEnv qual scope s.heap.objs.size f (.ref cda) cc) e) (fun _ s'' => CX outer H s E e s'') (fun e' s'' => CX outer H s E e' s'') s'
theorem zip_look : ∀ {ps : List Str} {us : List Value} {i : Nat} {x : Str} {u : Value}, ps.Nodup → ps[i]? = some x → us[i]? = some u → (ps.zip us).reverse.lookup x = some u
  | [], _, _, _, _, _, h, _ => by simp at h
  | _ :: _, [], _, _, _, _, _, h => by simp at h
  | p :: ps, v :: us, 0, x, u, nd, h1, h2 => by
    simp at h1 h2
    subst h1 h2
    rw [List.zip_cons_cons, List.reverse_cons, List.lookup_append]
    have n : (ps.zip us).reverse.lookup p = none := by
      rw [List.lookup_eq_none_iff]
      intro q hq
      have hm : q.1 ∈ ps := (List.of_mem_zip (List.mem_reverse.mp hq)).1
      have := (List.nodup_cons.mp nd).1
      simp only [beq_eq_false_iff_ne, bne_iff_ne, ne_eq] 
      intro z
      rw [z] at this
      exact this hm
    rw [n]
    simp [List.lookup]
  | p :: ps, v :: us, i + 1, x, u, nd, h1, h2 => by
    rw [List.zip_cons_cons, List.reverse_cons, List.lookup_append, zip_look (i := i) (List.nodup_cons.mp nd).2 (by simpa using h1) (by simpa using h2)]
    rfl
theorem xc_start {CX : CXT} {P : Program} {w : World} {K : PySem.W.Frag} {mg : Str → Option Value} {base : Heap} {N ps : List Str} {qual : Str} {scope : Scope} {f cda cc : Addr} {A : Around} {outer : List Env} {s : Shared} {H : Hp} {E : XK} {us : List Value} {vs : List V} {h₁ : Heap} {tk : Nat}
    (S : XScope N ps scope) (hd : A.handled = none) (e0 : Env0 P w K mg base A outer s H) (hl : vs.length = ps.length) (r : Vals vs us) (hns : h₁.Ns s.heap.objs.size fun x => (ps.zip us).reverse.lookup x) (kp : ∀ b o, s.heap.get? b = some o → h₁.get? b = some o)
    (hc : ∃ v, base.IsCell cc v) : Inv (xcCx CX P w K mg base N qual scope f cda cc A outer s H E) [] (L2.start N vs) H { s with heap := h₁, toks := tk } := by
  have hpl : ps.length ≤ N.length := by have := congrArg List.length S.pre; rw [List.length_take] at this; omega
  have noA : ∀ b : Addr, b ∉ (xcCx CX P w K mg base N qual scope f cda cc A outer s H E).ex := fun b z => absurd (show b ∈ ([] : List Addr) from z) (by simp)
  obtain ⟨v0, oc, ho, hdt⟩ := hc
  have one : ∀ {y : Str} {c : Addr}, List.lookup y [(("__class__" : Str), cc)] = some c → y = "__class__" ∧ c = cc := fun {y c} e => by
    rcases List.mem_singleton.mp (PySem.mem_of_lookup e) with z
    cases z
    exact ⟨rfl, rfl⟩
  refine ⟨⟨e0.mod, S.kind, rfl, rfl, Nat.le_refl _, fun y z c h1 h2 => ?_, fun y hy => ?_, fun y c h _ => ?_, fun _ => hd, Around.frames_deeper e0.frames, .inr ⟨rfl, rfl⟩, fun b z => absurd z (noA b), e0.bs, e0.bsz, fun b _ _ => noA b, fun b z => absurd z (noA b), e0.funs, e0.frf⟩,
    rfl, e0.bare, Un.kept kp, ⟨_, hns, fun i y v h1 h2 h3 => ?_⟩, fun y c h => ?_, e0.hok.fresh (Nat.le_refl _), fun y c h => ?_, fun p hp => absurd (show p ∈ ([] : List (Addr × Obj)) from hp) (by simp), e0.hok.kept kp, ?_⟩
  · exact (one h1).1.trans (one h2).1.symm
  · have hy : scope.names.lookup y = some .cell ∨ scope.names.lookup y = some .free := hy
    rcases hy with hy | hy
    · exact absurd rfl (S.nocell _ (PySem.mem_of_lookup hy))
    · have e := S.free _ (PySem.mem_of_lookup hy) rfl
      have e : y = "__class__" := e
      subst e
      exact ⟨cc, rfl⟩
  · exact absurd (show false = true from h) Bool.false_ne_true
  · have hi : i < vs.length := by
      unfold L2.start at h2
      by_cases hi : i < vs.length
      · exact hi
      · rw [List.getElem?_append_right (by simpa using hi), List.getElem?_replicate] at h2
        split at h2 <;> cases h2
    have ha : vs[i]? = some v := by
      unfold L2.start at h2
      rw [List.getElem?_append_left (by simpa using hi), List.getElem?_map] at h2
      cases e : vs[i]? with
      | none => rw [e] at h2; cases h2
      | some a => rw [e] at h2; cases h2; rfl
    obtain ⟨u, hu, rv⟩ := r.get ha
    have hp : ps[i]? = some y := by
      rw [← S.pre, List.getElem?_take_of_lt (by omega)]; exact h1
    have ndP : ps.Nodup := by rw [← S.pre]; exact S.nd.sublist (List.take_sublist _ _)
    exact ⟨u, rv, .inl ⟨S.par y (List.mem_of_getElem? hp), zip_look ndP hp hu⟩⟩
  · obtain ⟨_, e⟩ := one h
    subst e
    exact ⟨v0, oc, kp _ _ (e0.bs _ _ ho).1, hdt⟩
  · obtain ⟨_, e⟩ := one h
    subst e
    exact (e0.bs _ _ ho).2
  · unfold L2.start
    show _ = N.length
    rw [List.length_append, List.length_map, List.length_replicate]
    omega
/-- what the written part must say of an exception class, its __init__ and what that __init__ closes over -/
structure XcC (P : Program) (K : PySem.W.Frag) (C cda cc : Addr) : Prop where
  o : OexC K C
  code : ∃ ccl cdd vs ccs file tf, K.lookup cda = some ⟨ccl, cdd, .fields vs, ccs⟩ ∧ vs[2]? = some (.str file tf) ∧ (P.main.file == file) = true
  cell : ∃ cl cld csl, K.lookup cc = some ⟨cl, cld, .cell (some (.ref C)), csl⟩
  sup : PySem.W.ks_superIn K C C "__init__" = some (some (.builtin "ValueError.__init__"))
  sV : PySem.W.subIn K (.ref C) (.type "ValueError") = some true
  own : PySem.W.mroIn K C (.ref C) = some true
  any : PySem.W.nsIn K cStatics "thirdparty.any" = some none
  top : (P.main.scope.names.lookup ("super" : Str)).isSome = false
theorem xc_ok {CX : CXT} {P : Program} {w : World} {K : PySem.W.Frag} {mg : Str → Option Value} {base : Heap} {k : Nat} {f C cc cda : Addr} {name qual : Str} {params : Arguments} {body rest : List Stmt} {scope : Scope} {dV kV doc pm ct oc : Value} {an od : Option Addr}
    {osl : Array (Option Value)} {N ps : List Str} {sp : Sp} {e : Expr} {es : List Expr} {p0 p1 p2 p3 p4 : Pos} {ar : Arg}
    (lk : K.lookup f = some ⟨oc, od, .func (PySem.W.ksFn name qual params body scope dV kV doc pm an (.ref cda) ct cc), osl⟩) (hcd : PySem.W.codeIn K (.ref cda) qual = true) (T : XcC P K C cda cc)
    (hbd : body = .Expr (.Call (.Attribute (.Call (.Name "super" p0) [] [] p1) "__init__" p2) (e :: es) [] p3) p4 :: rest) (S : XScope N ps scope) (len : ∀ vs H Q E, sp vs H Q E → vs.length = ps.length)
    (hp : (params.posonlyargs ++ params.args).head? = some ar) (har : ps[0]? = some ar.arg) (hmg : mg "super" = none)
    (hbody : ∀ (A : Around) (outer : List Env) (s : Shared) (H : Hp) (vs : List V) (Q : VK) (E : XK), Room k (A.deeper (PySem.W.ksEnv qual scope s.heap.objs.size f (.ref cda) cc)) → sp vs H Q E →
      ∃ a ws ta t, vs = .ref a :: ws ∧ H a = some (exo a C none) ∧ PA (xcCx CX P w K mg base N qual scope f cda cc A outer s H E) (e :: es) ta ∧ PSs (xcCx CX P w K mg base N qual scope f cda cc A outer s H E) rest t ∧
        ta (L2.start N vs) H fun us H1 => us.length ≤ 1000 ∧ H1 a = some (exo a C none) ∧ t { nx := fun _ H' => Q .non H', rt := Q } (L2.start N vs) H1)
    (he : ∀ env : Env, starEach (e :: es) env = (false, eval e env) :: starEach es env := by exact fun _ => rfl) (hpl : ∀ env : Env, (backTo p3 (starEach es env)).any (·.1) = false := by exact fun _ => rfl)
    (hev : ∀ env : Env, ∃ pl, eval (.Call (.Attribute (.Call (.Name "super" p0) [] [] p1) "__init__" p2) (e :: es) [] p3) env = (do
      let ov ← attributeBase (.Call (.Name "super" p0) [] [] p1) "__init__" env (eval (.Call (.Name "super" p0) [] [] p1) env)
      standAt p2.atName
      let (f, first) ← holding [ov] (getMethod ov "__init__" pl)
      callWith p3 f first (backTo p3 (starEach (e :: es) env)) []) := by exact fun _ => ⟨_, rfl⟩)
    (hsw : ∀ env : Env, swapsWith (.Call (.Attribute (.Call (.Name "super" p0) [] [] p1) "__init__" p2) (e :: es) [] p3) none p4.line env = pure false := by exact fun _ => rfl) :
    FnOk P w K mg base CX (k + 1) f (PySem.W.ksFn name qual params body scope dV kV doc pm an (.ref cda) ct cc) ps sp := by
  refine ⟨len, fun A outer s H args us vs Q E hr e0 hb r hsp => ?_⟩
  have hl := len _ _ _ _ hsp
  have KX : K.In s.heap := e0.mod.kin.keeps fun b o e => (e0.bs b o e).1
  have lim : s.heap.NoLimit := e0.mod.nolimit.keeps fun b o e => (e0.bs b o e).1
  obtain ⟨ccl, cdd, cvs, ccs, file, tf, lkc, hv2, hfile⟩ := T.code
  obtain ⟨cl, cld, csl, lcell⟩ := T.cell
  obtain ⟨nm, q, NN, bs, bm, sn, sub, ab, col, dd, k0, k1, k2, k3, k5, hC, hbm⟩ := T.o.cls
  have hcl : ∃ cd, PySem.W.clsIn K C = some cd := ⟨_, by unfold PySem.W.clsIn; rw [hC] <;> rfl⟩
  obtain ⟨cd, hcl⟩ := hcl
  refine PySem.ks_codeAny_call_defAt (fd := PySem.W.ksFn name qual params body scope dV kV doc pm an (.ref cda) ct cc) (body := body) (binds := ps.zip us) hr.depth (KX _ _ lk) rfl lim (PySem.W.codeRec_of KX hcd) rfl hb S.nocell
    (fun y hy => S.par _ (List.of_mem_zip hy).1) (fun h₁ hns kp => ?_) S.co S.gen S.kind
  have I0 : Inv (xcCx CX P w K mg base N qual scope f cda cc A outer s H E) [] (L2.start N vs) H { s with heap := h₁, toks := s.toks + (ps.zip us).length } := xc_start S hr.hd e0 hl r hns kp ⟨_, _, e0.mod.kin _ _ lcell, rfl⟩
  obtain ⟨a, ws, ta, t, ev, ha, hta, ht, hq⟩ := hbody A outer s H vs Q E (hr.deeper _) hsp
  have fin : ∀ {fl : Flow} {s' : Shared}, SP (xcCx CX P w K mg base N qual scope f cda cc A outer s H E) [] { nx := fun _ H' => Q .non H', rt := Q } fl s' → CR CX outer P w H s Q E (.ok (.ret (match fl with | .ret v => v | _ => .none))) s' := fun {fl s'} hs => by
    cases fl with
    | ret u =>
      obtain ⟨v, σ', H', J, rv, q⟩ := hs
      exact ⟨v, H', J.os, J.bare, J.base, J.hok, rv, q⟩
    | next =>
      obtain ⟨σ', H', J, q⟩ := hs
      exact ⟨.non, H', J.os, J.bare, J.base, J.hok, rfl, q⟩
    | brk =>
      obtain ⟨_, _, _, q⟩ := hs
      exact False.elim q
    | cont =>
      obtain ⟨_, _, _, q⟩ := hs
      exact False.elim q
  subst ev
  cases r with
  | @cons _ u0 _ ur ra rw' =>
  obtain rfl : u0 = Value.ref a := ra
  have ndP : ps.Nodup := by rw [← S.pre]; exact S.nd.sublist (List.take_sublist _ _)
  have hself : (ps.zip (Value.ref a :: ur)).reverse.lookup ar.arg = some (Value.ref a) := zip_look ndP har rfl
  have hD : ∃ oD, h₁.get? C = some oD ∧ oD.data = .cls cd := by
    unfold PySem.W.clsIn at hcl
    rw [hC] at hcl
    exact ⟨_, kp _ _ (KX _ _ hC), by cases hcl; rfl⟩
  obtain ⟨oD, hD1, hD2⟩ := hD
  obtain ⟨t0, hoe⟩ := exo_at I0.hok ha
  have KX1 : K.In h₁ := fun b o z => kp _ _ (KX _ _ z)
  have hks : (PySem.W.ksEnv qual scope s.heap.objs.size f (.ref cda) cc).kindOf "super" = some .globalImplicit := S.sup
  have hkc : (PySem.W.ksEnv qual scope s.heap.objs.size f (.ref cda) cc).kindOf "__class__" = some .free := S.cls
  have hka : (PySem.W.ksEnv qual scope s.heap.objs.size f (.ref cda) cc).kindOf ar.arg = some .local := S.par _ (List.mem_of_getElem? har)
  obtain ⟨mb, hb1, hb2⟩ := e0.mod.blt
  show _root_.PySem.wpAt _ (A.deeper (PySem.W.ksEnv qual scope s.heap.objs.size f (.ref cda) cc)) (.func body (PySem.W.ksEnv qual scope s.heap.objs.size f (.ref cda) cc)) (execs body (PySem.W.ksEnv qual scope s.heap.objs.size f (.ref cda) cc)) _ _ _
  obtain ⟨hp0, gg, dd0, tt, os0⟩ := s
  refine PySem.wpAt_mono (Q := SP (xcCx CX P w K mg base N qual scope f cda cc A outer ⟨hp0, gg, dd0, tt, os0⟩ H E) [] { nx := fun _ H' => Q .non H', rt := Q }) ?_ (fun fl s' hs => fin hs) fun _ _ z => z
  have bk : ∀ b o, base.get? b = some o → h₁.get? b = some o := fun b o z => kp _ _ (e0.bs b o z).1
  suffices main : ∀ body', body' = body → _root_.PySem.wpAt (model P w) (A.deeper (PySem.W.ksEnv qual scope hp0.objs.size f (.ref cda) cc)) (.func body' (PySem.W.ksEnv qual scope hp0.objs.size f (.ref cda) cc)) (execs body (PySem.W.ksEnv qual scope hp0.objs.size f (.ref cda) cc))
      (SP (xcCx CX P w K mg base N qual scope f cda cc A outer ⟨hp0, gg, dd0, tt, os0⟩ H E) [] { nx := fun _ H' => Q .non H', rt := Q }) (xcCx CX P w K mg base N qual scope f cda cc A outer ⟨hp0, gg, dd0, tt, os0⟩ H E).xe ⟨h₁, gg, dd0, tt + (ps.zip (Value.ref a :: ur)).length, os0⟩ from main body rfl
  intro body' _
  rw [hbd]
  obtain ⟨pl, hev⟩ := hev (PySem.W.ksEnv qual scope hp0.objs.size f (.ref cda) cc)
  refine PySem.ks_wpAt_execs_cons (PySem.ks_wpAt_Expr_any (PySem.ks_wpAt_MethodCall (pl := pl) ?_ hev) I0.quiet (hsw _))
  refine PySem.ks_wpAt_super_base hks hkc (by decide) rfl (KX1 _ _ lk) rfl hp rfl (KX1 _ _ lkc) rfl hv2 hfile T.top ?_
  refine PySem.W.ks_loadName_global S.kind hks (Calls.loadGlobal_builtin (e0.mod.glob.keeps bk) hmg (hb1.keeps bk) ((hb2 "super" (by decide)).trans PyProof.Rows.Boot.«super») ⟨rfl, ?_⟩)
  refine wpAny_loadName_free S.kind hkc rfl ⟨_, KX1 _ _ lcell, rfl⟩ ?_
  refine wpAny_loadName_local S.kind hka hns hself ?_
  refine PySem.ks_wpAny_isType_cls hD1 hD2 ⟨rfl, ?_⟩
  refine PySem.ks_wpAny_call_super hD1 hD2 hoe rfl (fun c z => by cases z) (PySem.W.looks_mroIn KX1 T.own) (fun h2 eso k2' => ?_)
  have KX2 : K.In h2 := fun b o z => k2' _ _ (KX1 _ _ z)
  have I2 : PySem.W.InstAt h2 a _ C none := ⟨k2' _ _ hoe, rfl, rfl, trivial⟩
  have hsup := T.sup
  unfold PySem.W.ks_superIn at hsup
  rw [hcl] at hsup
  refine PySem.W.kxs_getMethod PySem.W.kxs_ValueError (l₀ := cd.mro) eso (PySem.W.looks_opaque KX2 T.any) (fun A Q E s k q => wpAny_bind ((PySem.W.looks_clsIn KX2 hcl) A _ E s k (wpAny_pure q))) rfl KX2 hsup (I2.type.andThen (PySem.W.looks_subIn KX2 T.sV)) (PySem.W.ks_ne KX2 I2 hcl) (by decide) ?_
  have kk : ∀ b o, h₁.get? b = some o → (h2.push (PySem.W.kxs_mw "ValueError.__init__" a)).get? b = some o := fun b o z => Heap.get?_push_of_some _ (k2' _ _ z)
  have hsz : h₁.objs.size ≤ h2.objs.size := Nat.le_of_lt (Heap.lt_size eso)
  have I3 := inv_pin (t' := tt + (ps.zip (Value.ref a :: ur)).length + 1) I0 kk hsz (o := PySem.W.kxs_mw "ValueError.__init__" a) (Heap.get?_push_at rfl rfl) (fun v z => by cases z)
  show wpAny _ _ (callWith p3 (.ref h2.objs.size) [] (backTo p3 (starEach (e :: es) (PySem.W.ksEnv qual scope hp0.objs.size f (.ref cda) cc))) []) _ _ _
  have hrun := hta.run p3 _ _ _ _ _ I3 hq
  have hrun : wpAny (model P w) (A.deeper (PySem.W.ksEnv qual scope hp0.objs.size f (.ref cda) cc)) (spliced (backTo p3 (starEach (e :: es) (PySem.W.ksEnv qual scope hp0.objs.size f (.ref cda) cc)))) _ _ _ := hrun
  rw [he] at hrun ⊢
  refine PySem.W.kxs_callWith (i := "ValueError.__init__") (x := a) (by show (false || (backTo p3 (starEach es _)).any (·.1)) = false; rw [hpl]; rfl) ?_
  refine Calls.evalArgs_plain (thn hrun fun vs1 s4 hh => ?_)
  obtain ⟨xs, H1, I4, r4, hxl, hxa, hqt⟩ := hh
  have pin := I4.pin (h2.objs.size, PySem.W.kxs_mw "ValueError.__init__" a) (List.mem_append_right _ List.mem_cons_self)
  refine ⟨pin.1, ?_⟩
  obtain ⟨t4, ho4⟩ := exo_at I4.hok hxa
  obtain ⟨hp4, g4, d4, tk4, os4⟩ := s4
  have hvs : vs1.length ≤ sizeLine := by
    rw [← Paired.length r4, sizeLine_eq]
    omega
  refine call_mw (I4.kIn _ _ hC) ho4 pin.1 hvs (fun h5 t5 k5' hx5 => ?_)
  have J := (inv_unpin I4).write (t' := tk4) (x := a) (e := a) (o := exo a C none) (by rw [hxa]; exact True.intro) (.inl rfl) k5' ⟨_, hx5⟩ (exo_ok hx5)
  have eu : upd H1 a (exo a C none) = H1 := by
    funext b
    by_cases hb : b = a
    · rw [hb, upd_same, hxa]
    · rw [upd_ne hb]
  rw [eu] at J
  exact PySem.wpAt_of_wpAny (ht.run [] _ _ H1 _ J hqt)
end Eb

namespace Eb
open PySem PySem.Spec PyProof.Rows L2
/-! ### isinstance of an exception, with or without a dict -/
section
open PySem.W PySem.Calls
variable {prog : Program} {w : World} {A : Around} {E : Value → Shared → Prop} {s : Shared} {K : Frag} {x D : Addr} {ox : Obj} {od : Option Obj}
theorem find_dataD {C : Addr} {name : Str} {a g : Value} (hc : (clsIn K C).isSome = true) (ha : findIn K (.ref C) name = some (some a)) (hg : specialIn K a "__get__" = some (some g)) (ht : takesIn K a = some true) : findObj K C od name = some (.bind g a) := by
  obtain ⟨cd, hc⟩ := Option.isSome_iff_exists.mp hc
  unfold findObj
  rw [hc, Option.bind_some, ha, Option.bind_some]
  simp [hg, ht]
theorem kin_exc {Q : Option Value → Shared → Prop} (C : L2.ExcC K D) (X : K.In s.heap) (I : InstAt s.heap x ox D od) (h : Q (some (.ref D)) { s with toks := s.toks + 1 }) : wpAny (model prog w) A (getAttr? (.ref x) "__class__") Q E s := by
  have hf : findObj K D od "__class__" = some (.bind (.builtin "getset_descriptor.__get__") (.builtin "object.__class__")) := find_dataD (by obtain ⟨cd, hc, _⟩ := any_some C.hd; rw [hc]; rfl) C.ha C.hn C.ht
  obtain ⟨hp, g, d, t, os⟩ := s
  have L0 := I.type (M := model prog w)
  have L1 := looks_findIn (M := model prog w) X C.hg
  have L2 := looks_findIn (M := model prog w) X C.hk
  have L3 := looks_find (M := model prog w) X I hf
  have sub : Looks (model prog w) hp (isInstance (.ref x) (.type "BaseException")) true := L0.andThen (looks_subIn X C.hs)
  have hx0 : (false && onTheHeap (Value.builtin "BaseException.__getattribute__")) = false := rfl
  have hx2 : (Value.builtin "BaseException.__getattribute__" == Value.builtin "object.__getattribute__") = false := by decide +kernel
  have hx1 : (onTheHeap (Value.ref D) && Value.builtin "BaseException.__getattribute__" == Value.builtin "object.__getattribute__") = false := by rw [hx2]; rfl
  unfold getAttr? getAttrBy? getAttrBy
  refine wpAny_bind (wpAny_mkText (wpAny_bind (wpAny_attempt (wpAny_holding (wpAny_bind (L0.at (wpAny_bind (L1.at ?_))))))))
  show wpAny _ _ (if (onTheHeap (Value.ref D) && Value.builtin "BaseException.__getattribute__" == Value.builtin "object.__getattribute__") = true then _ else _) _ _ _
  rw [hx1, if_neg Bool.false_ne_true]
  unfold getAttrByItsOwn hookBefore
  refine wpAny_bind ?_
  rw [if_pos (show onTheHeap (Value.ref D) = true from rfl)]
  refine L2.at ?_
  refine wpAny_bind (wpAny_attempt (wpAny_holding ?_))
  unfold callGetattribute
  rw [hx0, if_neg Bool.false_ne_true]
  unfold boundAndCalled
  rw [PySem.F.excAttr_ValueError.ga.bind (.ref x)]
  refine wpAny_bind (wpAny_pure ?_)
  show wpAny _ _ (call (.builtin "BaseException.__getattribute__") [.ref x, .str "__class__" t]) _ _ _
  refine wpAny_call (codeAny_call_builtin PySem.F.excAttr_ValueError.ga.plain PySem.F.entry_bexc_ga ?_)
  refine @check_slot (model prog w) _ _ ⟨hp, g, d, t + 1, os⟩ "BaseException.__getattribute__" "BaseException" "__getattribute__" (.ref x) [.str "__class__" t] [] _ (by decide +kernel) (by decide +kernel) sub (PySem.F.args_bexc_ga (.ref x) (.str "__class__" t)) ?_
  unfold Builtin.«object.__getattribute__»
  refine wpAny_bind (wpAny_of_eq (a := ((Value.ref x : Value), [Value.str "__class__" t])) (by first | rfl | (simp only [slotArgs]; rfl)) ?_)
  refine wpAny_bind (wpAny_pure (wpAny_bind (L0.at (wpAny_bind (L3.at ?_)))))
  show wpAny _ _ (holding [Value.builtin "object.__class__"] (call (.builtin "getset_descriptor.__get__") [.builtin "object.__class__", .ref x, .ref D]) >>= ret) _ _ _
  refine wpAny_bind (wpAny_holding (wpAny_call (class_get (s := ⟨hp, g, d, t + 1, os⟩) (ox := ox) (od := od) X I C.hm ?_)))
  refine wpAny_pure ?_
  show wpAny _ _ (handedOut (.ref D)) _ _ _
  rw [handedOut_of (v := .ref D) rfl]
  first
    | exact wpAny_pure (wpAny_pure h)
    | exact wpAny_pure h
    | exact wpAny_pure (wpAny_bind (wpAny_pure (wpAny_pure h)))
theorem kitx_exc (C : L2.ExcC K D) : KitX K (.ref x) (.ref D) (fun h => ∃ ox od, InstAt h x ox D od) where
  ty := fun _ _ _ ⟨_, _, I⟩ => I.type
  it := fun _ _ X _ => by
    obtain ⟨cdD, hcD, _⟩ := any_some C.hd
    unfold clsIn at hcD
    split at hcD
    · rename_i c' d' cd' sl' ho
      intro A' Q' E' s' k q
      unfold isType loadHead
      exact wpAny_bind (wpAny_loadPart (k _ _ (X _ _ ho)) (wpAny_pure q))
    · cases hcD
  ne := fun h tp dd its n sl X htp => by
    obtain ⟨cdD, hcD, _⟩ := any_some C.hd
    refine Bool.eq_false_iff.mpr fun q => ?_
    have e : D = tp := Value.ref.inj (beq_iff_eq.mp q)
    subst e
    unfold clsIn at hcD
    split at hcD
    · rename_i c' d' cd' sl' ho
      have z := (X _ _ ho).symm.trans htp
      cases z
    · cases hcD
  ca := fun X ⟨_, _, I⟩ k => kin_exc C X I k
end
/-! ### an exception as a value -/
def Ext (H H' : Hp) : Prop := ∀ b o, H b = some o → H' b = some o
/-- at a: an exception of the class at C with the fields fs -/
def ExAt (H : Hp) (a C : Addr) (fs : List (Str × V)) : Prop := (fs = [] ∧ H a = some (exo a C none)) ∨ ∃ dx, H a = some (exo a C (some dx)) ∧ H dx = some (exd dx fs)
theorem ExAt.ext {H H' : Hp} {a C : Addr} {fs : List (Str × V)} (h : ExAt H a C fs) (e : Ext H H') : ExAt H' a C fs := by
  rcases h with ⟨h1, h2⟩ | ⟨dx, h1, h2⟩
  · exact .inl ⟨h1, e _ _ h2⟩
  · exact .inr ⟨dx, e _ _ h1, e _ _ h2⟩
theorem Ext.refl (H : Hp) : Ext H H := fun _ _ h => h
theorem Ext.trans {H H1 H2 : Hp} (a : Ext H H1) (b : Ext H1 H2) : Ext H H2 := fun c o h => b c o (a c o h)
theorem Ext.new {H : Hp} {p : Addr} {o : HO} (h : H p = none) : Ext H (upd H p o) := fun b u hb => by rw [upd_ne (ne_of_none hb h)]; exact hb
theorem Ext.mut {H H' : Hp} {p : Addr} {o : HO} (e : Ext H H') (h : H p = none) : Ext H (upd H' p o) := fun b u hb => by rw [upd_ne (ne_of_none hb h)]; exact e b u hb
theorem Ext.back {H H' : Hp} (k : Ext H H') {b : Addr} (h : H' b = none) : H b = none := by
  cases e : H b with
  | none => rfl
  | some o => rw [k b o e] at h; cases h
/-- the class that the module's name x stands for -/
def isX (K : PySem.W.Frag) (n : Str) (C : Addr) : Prop := XfC K C ∧ PySem.W.findIn K (.ref C) n = some none
/-- e.f of an exception held as a value -/
def yXfld (K : PySem.W.Frag) (n : Str) (te : TE) : TE := fun σ H Q => te σ H fun x H1 => match x with
  | .ref a => ∃ C fs v, ExAt H1 a C fs ∧ isX K n C ∧ fs.lookup n = some v ∧ Q v H1
  | _ => False
/-- isinstance(e, c), e such an exception -/
def zIsX (K : PySem.W.Frag) : List V → Hp → VK → Prop := fun xs H Q => match xs with
  | [.ref a, .ref c] => ∃ C fs b, ExAt H a C fs ∧ ExcC K C ∧ PySem.W.kitOne K (.ref C) (.ref c) = some b ∧ Q (.bl b) H
  | [.ref a, .ty T] => ∃ C fs b, ExAt H a C fs ∧ ExcC K C ∧ PySem.W.kitOne K (.ref C) (.type T) = some b ∧ Q (.bl b) H
  | _ => False
section
variable {X : Cx}
theorem exat_inst {pins : List (Addr × Obj)} {σ : L2.St} {H : Hp} {s : Shared} {a C : Addr} {fs : List (Str × V)} (I : Inv X pins σ H s) (h : ExAt H a C fs) :
    ∃ ox od, PySem.W.InstAt s.heap a ox C od ∧ (∀ n v, fs.lookup n = some v → ∃ o u, od = some o ∧ PySem.W.lookIn n o = some (some u) ∧ RelV v u) := by
  rcases h with ⟨h1, h2⟩ | ⟨dx, h1, h2⟩
  · obtain ⟨t0, ho⟩ := exo_at I.hok h2
    exact ⟨_, none, ⟨ho, rfl, rfl, trivial⟩, fun n v e => by rw [h1] at e; cases e⟩
  · obtain ⟨t0, ho⟩ := exo_at I.hok h1
    obtain ⟨mA, hns, rel⟩ := exd_at I.hok h2
    obtain ⟨od, hod, hl⟩ := lookIn_ns hns
    refine ⟨_, some od, ⟨ho, rfl, rfl, hod⟩, fun n v e => ?_⟩
    obtain ⟨u, hu, ru⟩ := RelO.some_of (v := v) (o := mA n) (by rw [← e]; exact rel n)
    exact ⟨od, u, rfl, by rw [hl, hu], ru⟩
theorem ye_xfld {e : Expr} {te : TE} {pos : Pos} {n : Str} (he : PE X e te) (hb : attributeBase e n X.env (eval e X.env) = eval e X.env := by rfl) : PE X (.Attribute e n pos) (yXfld X.K n te) := by
  refine ⟨fun pins s σ H Q I h => ?_⟩
  refine attr_of hb (thn (he.run pins s σ H _ I h) fun u s1 hh => ?_)
  obtain ⟨x, H1, I1, rx, q⟩ := hh
  cases x <;> first | exact False.elim q | skip
  rename_i a
  obtain ⟨C, fs, v, hx, ⟨T, hno⟩, l, q⟩ := q
  obtain rfl : u = Value.ref a := rx
  obtain ⟨ox, od, J, hl⟩ := exat_inst I1 hx
  obtain ⟨o, u, rfl, hu, ru⟩ := hl n v l
  exact HandSPX.exc_get I1.kIn J T.ga T.gg T.exC (PySem.W.findObj_own T.hdC hno rfl hu) (handed_of ru) ⟨v, H1, I1.tok _, ru, q⟩
theorem cr_isX : CallR X (.builtin "isinstance") (zIsX X.K) := by
  intro pins s σ H xs us Q I r h
  unfold zIsX at h
  split at h
  · obtain ⟨C, fs, b, hx, T, e, q⟩ := h
    cases r with
    | cons rx rr => cases rr with
      | cons rt rr =>
        cases rr
        cases rx
        cases rt
        obtain ⟨ox, od, J, _⟩ := exat_inst I hx
        exact PySem.W.kia_one (kitx_exc T) I.kIn ⟨ox, od, J⟩ e (fun z => nomatch z) fun tk => ⟨.bl b, H, I.kept (t' := tk) fun _ _ z => z, rfl, q⟩
  · obtain ⟨C, fs, b, hx, T, e, q⟩ := h
    cases r with
    | cons rx rr => cases rr with
      | cons rt rr =>
        cases rr
        cases rx
        cases rt
        obtain ⟨ox, od, J, _⟩ := exat_inst I hx
        exact PySem.W.kia_one (kitx_exc T) I.kIn ⟨ox, od, J⟩ e (fun z => nomatch z) fun tk => ⟨.bl b, H, I.kept (t' := tk) fun _ _ z => z, rfl, q⟩
  · exact h.elim
end
/-! ### making one -/
/-- what __init__ promises: no field | the field f, of an argument that ok lets -/
def spI0 (C : Addr) : Sp := fun vs H Q E => ∃ a, vs = [.ref a] ∧ H a = some (exo a C none) ∧ Q .non H
def spI1 (C : Addr) (f : Str) (ok : V → Prop) : Sp := fun vs H Q E => ∃ a v, vs = [.ref a, v] ∧ H a = some (exo a C none) ∧ ok v ∧ ∀ dx, H dx = none → dx ≠ a → Q .non (upd (upd H dx (exd dx [(f, v)])) a (exo a C (some dx)))
def spIL (K : PySem.W.Frag) (C : Addr) (f : Str) : Sp := fun vs H Q E => ∃ a p ys, vs = [.ref a, .ref p] ∧ H a = some (exo a C none) ∧ (SqL K H p ys ∨ SqT K H p ys) ∧ ys.length < 10 ^ 9 ∧
  ∀ l dx, H l = none → l ≠ a → H dx = none → dx ≠ a → dx ≠ l → Q .non (upd (upd (upd H l (.lst ys)) dx (exd dx [(f, .ref l)])) a (exo a C (some dx)))
/-- a class of the module with its __init__ -/
structure Mk (P : Program) (w : World) (K : PySem.W.Frag) (mg : Str → Option Value) (base : Heap) (x : Str) (C : Addr) (ps : List Str) (sp : Sp) : Prop where
  o : OexC K C
  glob : mg x = some (.ref C)
  ini : ∃ fI fd, PySem.W.findIn K (.ref C) "__init__" = some (some (.ref fI)) ∧ PySem.W.typeIn K (.ref fI) = some (.type "function") ∧ FnOk P w K mg base (L2.CX P w) 1 fI fd ps sp ∧ Binds K fd ps []
theorem mk_run {X : Cx} {x : Str} {C : Addr} {ps : List Str} {sp : Sp} (M : Mk X.prog X.w X.K X.mg X.base x C ps sp) (hr : Room 2 X.A) {pins : List (Addr × Obj)} {σ : L2.St} {H1 : Hp} {s1 : Shared} {us : List Value} {vs : List V} {Q : VK}
    (I1 : Inv X pins σ H1 s1) (r1 : Vals vs us) (hz : vs.length ≤ 1000) (h : ∀ a, H1 a = none → sp (.ref a :: vs) (upd H1 a (exo a C none)) (fun v H2 => v = .non ∧ Q (.ref a) H2) E0) : wpAny (model X.prog X.w) X.A (call (.ref C) us) (EP X pins σ Q) X.xe s1 := by
  obtain ⟨nm, q, N, bs, bm, sn, sub, ab, col, dd, k0, k1, k2, k3, k5, hC, hbm⟩ := M.o.cls
  obtain ⟨fI, fd, iC, tI, F1, hb⟩ := M.ini
  obtain ⟨hp, g, dr, tk, os⟩ := s1
  have hsz : hp.objs.size ≤ hp.objs.size + 1 := Nat.le_succ _
  have hn : H1 (hp.objs.size + 1) = none := I1.hok.fresh hsz
  have hq := h (hp.objs.size + 1) hn
  have kk : ∀ b o, hp.get? b = some o → ((hp.push (PySem.W.kdv_tup us)).push (PySem.HandSPX.excO C hp.objs.size)).get? b = some o := fun b o e => Heap.get?_push_of_some _ (Heap.get?_push_of_some _ e)
  have hget : ((hp.push (PySem.W.kdv_tup us)).push (PySem.HandSPX.excO C hp.objs.size)).get? (hp.objs.size + 1) = some (PySem.HandSPX.excO C hp.objs.size) := by heap_get
  have I2 : Inv X pins σ (upd H1 (hp.objs.size + 1) (exo (hp.objs.size + 1) C none)) ⟨(hp.push (PySem.W.kdv_tup us)).push (PySem.HandSPX.excO C hp.objs.size), g, dr, tk, os⟩ :=
    I1.laid (t' := tk) (a := hp.objs.size + 1) (o := exo (hp.objs.size + 1) C none) (h' := (hp.push (PySem.W.kdv_tup us)).push (PySem.HandSPX.excO C hp.objs.size)) kk hsz (exo_ok hget)
  have r2 : Vals (V.ref (hp.objs.size + 1) :: vs) (Value.ref (hp.objs.size + 1) :: us) := .cons rfl r1
  have hl : (Value.ref (hp.objs.size + 1) :: us).length = ps.length := by
    have e := r2.length
    rw [F1.len _ _ _ _ hq] at e
    exact e.symm
  have hus : us.length ≤ sizeLine := by
    rw [← Paired.length r1, sizeLine_eq]
    omega
  have hb' := hb _ (Value.ref (hp.objs.size + 1) :: us) I2.kIn (by rw [List.append_nil]; exact hl)
  rw [List.append_nil] at hb'
  refine wpAny_call (PySem.HandSPX.call_own F.excBase_ValueError (fun Y => PySem.HandSPX.refsVE_contains Y bm hbm) (I1.kIn _ _ hC) (PySem.W.looks_findIn I1.kIn iC) (fun self => PySem.W.bind_fn I1.kIn self tI) hus
    (codeAny_mono (F1.run _ X.stack _ _ ⟨Value.ref (hp.objs.size + 1) :: us, []⟩ (Value.ref (hp.objs.size + 1) :: us) _ _ E0 (hr.make C us []) (I2.env0.make C us []) hb' r2 hq) fun r s' hq' => ?_))
  cases r with
  | error er => exact passL pins σ _ _ er s' I2 hq'
  | ok fl =>
    cases fl with
    | ret u =>
      obtain ⟨v, H2, os2, bare2, un2, hok2, rv, ev, q2⟩ := hq'
      subst ev
      obtain ⟨h2, g2, d2, t2, os'⟩ := s'
      obtain rfl : os' = os := os2
      exact ⟨rv, ⟨.ref (hp.objs.size + 1), H2, by
        have J := I2.call (h' := h2) (g' := g2) (d' := d2) (t' := t2) (ch := []) un2 hok2 bare2 (fun b z => absurd z (by simp))
        exact J, rfl, q2⟩⟩
    | next => exact False.elim hq'
    | brk => exact False.elim hq'
    | cont => exact False.elim hq'
/-- C(e, ..) as a value, C's own __init__ keeping sp -/
def yMkV (C : Addr) (sp : Sp) (ta : TA) : TE := fun σ H Q => ta σ H fun vs H1 => vs.length ≤ 1000 ∧ ∀ a, H1 a = none → sp (.ref a :: vs) (upd H1 a (exo a C none)) (fun v H2 => v = .non ∧ Q (.ref a) H2) E0
section
variable {X : Cx} {x : Str} {C : Addr} {ps : List Str} {sp : Sp} {ta : TA} {e : Expr} {es : List Expr} {p pos : Pos}
theorem ye_mkV (M : Mk X.prog X.w X.K X.mg X.base x C ps sp) (hr : Room 2 X.A) (hg : Gl X x) (ha : PA X (e :: es) ta)
    (hdb : (x == ("__debug__" : Str)) = false := by decide) (he : starEach (e :: es) X.env = (false, eval e X.env) :: starEach es X.env := by rfl) (hpl : (backTo pos (starEach es X.env)).any (·.1) = false := by rfl) :
    PE X (.Call (.Name x p) (e :: es) [] pos) (yMkV C sp ta) := by
  refine ⟨fun pins s σ H Q I h => ?_⟩
  refine wpAny_Call_Name_kw (ld_glob I hg M.glob ?_ hdb)
  refine PySem.W.callWith_K (h₀ := X.base) I.ok.mod.kin M.o.kC (thn (ha.run pos pins s σ H _ I h) fun us s1 ⟨vs, H1, I1, r1, hz, q1⟩ => ⟨I1.kIn, ?_⟩) he hpl
  exact mk_run M hr I1 r1 hz q1
theorem ye_mkV0 (M : Mk X.prog X.w X.K X.mg X.base x C ps sp) (hr : Room 2 X.A) (hg : Gl X x) (hdb : (x == ("__debug__" : Str)) = false := by decide) :
    PE X (.Call (.Name x p) [] [] pos) (yMkV C sp tNil) := by
  refine ⟨fun pins s σ H Q I h => ?_⟩
  refine wpAny_Call_Name_kw (ld_glob I hg M.glob ?_ hdb)
  exact PySem.W.callWith_K0 I.kIn M.o.kC (mk_run M hr I .nil h.1 h.2)
end
/-! ### raising one -/
theorem mk_endN {X : Cx} {pins : List (Addr × Obj)} {σ : L2.St} {H1 H2 : Hp} {Q : XK} {hp hp2 h2 : Heap} {g1 g2 : Array GenState} {d1 d2 : Drawn} {t1 t2 : Nat} {os1 os2 : OsState} {a C : Addr} (T : Raises X (.ref C)) (I1 : Inv X pins σ H1 ⟨hp, g1, d1, t1, os1⟩)
    (ha : hp.objs.size ≤ a) (k : ∀ b o, hp.get? b = some o → hp2.get? b = some o) (un : Un (frs X.stack) [] (upd H1 a (exo a C none)) H2 hp2 h2) (hok : HOk X.prog X.w H2 h2) (ho : os2 = os1) (hb : AllBare g2)
    (ea : H2 a = some (exo a C none)) (q : Q (.ref C) none (del H2 a)) : MkP X pins σ Q (.ref a) ⟨h2, g2, d2, t2, os2⟩ := by
  obtain ⟨t0, hoe⟩ := exo_at hok ea
  have hn : H1 a = none := I1.hok.fresh ha
  obtain ⟨G, g1', g2'⟩ := restrict h2 fun b => decide (b ≠ a)
  have gk : ∀ b, b ≠ a → G.get? b = h2.get? b := fun b hb => g1' b (decide_eq_true hb)
  have ge : G.get? a = none := g2' a (by simp)
  have nha : ∀ {b : Addr} {o : Obj}, hp.get? b = some o → b ≠ a := fun {b o} z => Nat.ne_of_lt (Nat.lt_of_lt_of_le (Heap.lt_size z) ha)
  have up : ∀ {b : Addr}, b ≠ a → H1 b = none → upd H1 a (exo a C none) b = none := fun {b} hb n => by rw [upd_ne hb]; exact n
  have U : Un (frs X.stack) [] H1 (del H2 a) hp G := {
    keep := fun b o z n hf hx => by
      rw [gk b (nha z)]
      exact un.keep b o (k b o z) (up (nha z) n) hf hx
    slot := fun b o z n hf hx => by
      rw [gk b (nha z)]
      exact un.slot b o (k b o z) (up (nha z) n) hf hx
    free := fun b o z n hx => by
      rw [del_ne (nha z)]
      exact un.free b o (k b o z) (up (nha z) n) hx
    there := fun b o z hx => by
      rw [gk b (nha z)]
      exact un.there b o (k b o z) hx
    tups := fun b xs z => by
      rw [del_ne (ne_of_none z hn)]
      exact un.tups b xs (by rw [upd_ne (ne_of_none z hn)]; exact z)
    frzs := fun b o v z => by
      rw [del_ne (ne_of_none z hn)]
      exact un.frzs b o v (by rw [upd_ne (ne_of_none z hn)]; exact z)
    tbls := fun b ps z => by
      rw [del_ne (ne_of_none z hn)]
      exact un.tbls b ps (by rw [upd_ne (ne_of_none z hn)]; exact z) }
  have hok3 : HOk X.prog X.w (del H2 a) G := fun b o z => by
    have hba : b ≠ a := fun e => by
      rw [e, del_same] at z
      cases z
    rw [del_ne hba] at z
    have noa : ∀ {c : Addr}, H2 c = some (.own b) → c ≠ a := fun {c} hc => at_ne ea hc exo_own
    exact (hok b o z).stay (fun c v hc y => by
        have hca : c ≠ a := by
          rcases hc with hc | hc
          · rw [hc]
            exact hba
          · exact noa hc
        rw [gk c hca]
        exact y)
      (fun c hc => by rw [del_ne (noa hc)]; exact hc) (fun c xs hc => by rw [del_ne (at_ne ea hc exo_tup)]; exact hc)
  have J : Inv X pins σ (del H2 a) ⟨G, g2, d2, t2, os2⟩ := I1.call' (ch := []) ho U hok3 hb (fun b z => absurd z (by simp))
  refine ⟨a, _, _, ⟨G, g2, d2, t2, os2⟩, _, .ref C, none, rfl, J, fun b o z => ?_, ge, hoe, ⟨rfl, rfl⟩, rfl, rfl, del_same, rfl, hb, T, q⟩
  by_cases hba : b = a
  · rw [hba, ge] at z
    cases z
  · exact (gk b hba).symm.trans z
/-- what the wish of a raised exception is told -/
def exW (C : Addr) (Q : XK) (H1 : Hp) (a : Addr) : VK := fun v H2 => v = .non ∧ ((H2 a = some (exo a C none) ∧ Q (.ref C) none (del H2 a)) ∨
  ∃ (d : Addr) (fs : List (Str × V)), H2 a = some (exo a C (some d)) ∧ H2 d = some (exd d fs) ∧ H1 d = none ∧ Q (.ref C) (some d) (upd (del H2 a) d (.xd fs)))
theorem mk_raise {X : Cx} {x : Str} {C : Addr} {ps : List Str} {sp : Sp} (M : Mk X.prog X.w X.K X.mg X.base x C ps sp) (hr : Room 2 X.A) {pins : List (Addr × Obj)} {σ : L2.St} {H1 : Hp} {s1 : Shared} {us : List Value} {vs : List V} {Q : XK}
    (I1 : Inv X pins σ H1 s1) (r1 : Vals vs us) (hz : vs.length ≤ 1000) (h : ∀ a, H1 a = none → sp (.ref a :: vs) (upd H1 a (exo a C none)) (exW C Q H1 a) E0) : wpAny (model X.prog X.w) X.A (call (.ref C) us) (MkP X pins σ Q) X.xe s1 := by
  obtain ⟨nm, q, N, bs, bm, sn, sub, ab, col, dd, k0, k1, k2, k3, k5, hC, hbm⟩ := M.o.cls
  obtain ⟨fI, fd, iC, tI, F1, hb⟩ := M.ini
  obtain ⟨hp, g, dr, tk, os⟩ := s1
  have hsz : hp.objs.size ≤ hp.objs.size + 1 := Nat.le_succ _
  have hn : H1 (hp.objs.size + 1) = none := I1.hok.fresh hsz
  have hq := h (hp.objs.size + 1) hn
  have kk : ∀ b o, hp.get? b = some o → ((hp.push (PySem.W.kdv_tup us)).push (PySem.HandSPX.excO C hp.objs.size)).get? b = some o := fun b o e => Heap.get?_push_of_some _ (Heap.get?_push_of_some _ e)
  have hget : ((hp.push (PySem.W.kdv_tup us)).push (PySem.HandSPX.excO C hp.objs.size)).get? (hp.objs.size + 1) = some (PySem.HandSPX.excO C hp.objs.size) := by heap_get
  have I2 : Inv X pins σ (upd H1 (hp.objs.size + 1) (exo (hp.objs.size + 1) C none)) ⟨(hp.push (PySem.W.kdv_tup us)).push (PySem.HandSPX.excO C hp.objs.size), g, dr, tk, os⟩ :=
    I1.laid (t' := tk) (a := hp.objs.size + 1) (o := exo (hp.objs.size + 1) C none) (h' := (hp.push (PySem.W.kdv_tup us)).push (PySem.HandSPX.excO C hp.objs.size)) kk hsz (exo_ok hget)
  have r2 : Vals (V.ref (hp.objs.size + 1) :: vs) (Value.ref (hp.objs.size + 1) :: us) := .cons rfl r1
  have hl : (Value.ref (hp.objs.size + 1) :: us).length = ps.length := by
    have e := r2.length
    rw [F1.len _ _ _ _ hq] at e
    exact e.symm
  have hus : us.length ≤ sizeLine := by
    rw [← Paired.length r1, sizeLine_eq]
    omega
  have hb' := hb _ (Value.ref (hp.objs.size + 1) :: us) I2.kIn (by rw [List.append_nil]; exact hl)
  rw [List.append_nil] at hb'
  refine wpAny_call (PySem.HandSPX.call_own F.excBase_ValueError (fun Y => PySem.HandSPX.refsVE_contains Y bm hbm) (I1.kIn _ _ hC) (PySem.W.looks_findIn I1.kIn iC) (fun self => PySem.W.bind_fn I1.kIn self tI) hus
    (codeAny_mono (F1.run _ X.stack _ _ ⟨Value.ref (hp.objs.size + 1) :: us, []⟩ (Value.ref (hp.objs.size + 1) :: us) _ _ E0 (hr.make C us []) (I2.env0.make C us []) hb' r2 hq) fun r s' hq' => ?_))
  cases r with
  | error er => exact passL pins σ _ _ er s' I2 hq'
  | ok fl =>
    cases fl with
    | ret u =>
      obtain ⟨v, H2, os2, bare2, un2, hok2, rv, ev, q2⟩ := hq'
      subst ev
      obtain ⟨h2, g2, d2, t2, os'⟩ := s'
      refine ⟨rv, ?_⟩
      rcases q2 with ⟨ea, q2⟩ | ⟨d, fs, ea, ed, hd1, q2⟩
      · exact mk_endN (raises_own M.o.exC M.o.tyC) I1 hsz kk un2 hok2 os2 bare2 ea q2
      · exact mk_end (raises_own M.o.exC M.o.tyC) I1 hsz kk un2 hok2 os2 bare2 ea ed hd1 q2
    | next => exact False.elim hq'
    | brk => exact False.elim hq'
    | cont => exact False.elim hq'
def yMkR (C : Addr) (sp : Sp) (ta : TA) : L2.St → Hp → XK → Prop := fun σ H Q => ta σ H fun vs H1 => vs.length ≤ 1000 ∧ ∀ a, H1 a = none → sp (.ref a :: vs) (upd H1 a (exo a C none)) (exW C Q H1 a) E0
section
variable {X : Cx} {x : Str} {C : Addr} {ps : List Str} {sp : Sp} {ta : TA} {e : Expr} {es : List Expr} {p pos : Pos}
theorem pm_mk (M : Mk X.prog X.w X.K X.mg X.base x C ps sp) (hr : Room 2 X.A) (hg : Gl X x) (ha : PA X (e :: es) ta)
    (hdb : (x == ("__debug__" : Str)) = false := by decide) (he : starEach (e :: es) X.env = (false, eval e X.env) :: starEach es X.env := by rfl) (hpl : (backTo pos (starEach es X.env)).any (·.1) = false := by rfl) :
    PMk X (.Call (.Name x p) (e :: es) [] pos) (yMkR C sp ta) := by
  intro pins s σ H Q I h
  refine wpAny_Call_Name_kw (ld_glob I hg M.glob ?_ hdb)
  refine PySem.W.callWith_K (h₀ := X.base) I.ok.mod.kin M.o.kC (thn (ha.run pos pins s σ H _ I h) fun us s1 ⟨vs, H1, I1, r1, hz, q1⟩ => ⟨I1.kIn, ?_⟩) he hpl
  exact mk_raise M hr I1 r1 hz q1
theorem pm_mk0 (M : Mk X.prog X.w X.K X.mg X.base x C ps sp) (hr : Room 2 X.A) (hg : Gl X x) (hdb : (x == ("__debug__" : Str)) = false := by decide) :
    PMk X (.Call (.Name x p) [] [] pos) (yMkR C sp tNil) := by
  intro pins s σ H Q I h
  refine wpAny_Call_Name_kw (ld_glob I hg M.glob ?_ hdb)
  exact PySem.W.callWith_K0 I.kIn M.o.kC (mk_raise M hr I .nil h.1 h.2)
end
/-! ### what the makes come to -/
theorem del_upd2 {H : Hp} {a d : Addr} {o1 o2 : HO} {fs : List (Str × V)} {o3 : HO} (ha : H a = none) (hd : d ≠ a) : upd (del (upd (upd (upd H a o1) d o2) a o3) a) d (.xd fs) = upd H d (.xd fs) := by
  funext b
  by_cases h1 : b = d
  · rw [h1, upd_same, upd_same]
  · rw [upd_ne h1, upd_ne h1]
    by_cases h2 : b = a
    · rw [h2, del_same, ha]
    · rw [del_ne h2, upd_ne h2, upd_ne h1, upd_ne h2]
theorem del_upd1 {H : Hp} {a : Addr} {o : HO} (ha : H a = none) : del (upd H a o) a = H := by
  funext b
  by_cases h2 : b = a
  · rw [h2, del_same, ha]
  · rw [del_ne h2, upd_ne h2]
theorem mkR0 {C : Addr} {Q : XK} {H : Hp} (q : Q (.ref C) none H) : ∀ a, H a = none → spI0 C [.ref a] (upd H a (exo a C none)) (exW C Q H a) E0 := fun a ha =>
  ⟨a, rfl, upd_same, rfl, .inl ⟨upd_same, by rw [del_upd1 ha]; exact q⟩⟩
theorem mkR1 {C : Addr} {f : Str} {ok : V → Prop} {v : V} {Q : XK} {H : Hp} (hv : ok v) (q : ∀ d, H d = none → Q (.ref C) (some d) (upd H d (.xd [(f, v)]))) : ∀ a, H a = none → spI1 C f ok [.ref a, v] (upd H a (exo a C none)) (exW C Q H a) E0 := fun a ha =>
  ⟨a, v, rfl, upd_same, hv, fun dx hd hne => ⟨rfl, .inr ⟨dx, _, upd_same, by rw [upd_ne hne, upd_same], by rw [upd_ne hne] at hd; exact hd, by
    rw [del_upd2 ha hne]
    exact q dx (by rw [upd_ne hne] at hd; exact hd)⟩⟩⟩
theorem mkV0 {C : Addr} {Q : VK} {H : Hp} (q : ∀ a H', Ext H H' → H a = none → ExAt H' a C [] → Q (.ref a) H') : ∀ a, H a = none → spI0 C [.ref a] (upd H a (exo a C none)) (fun v H2 => v = .non ∧ Q (.ref a) H2) E0 := fun a ha =>
  ⟨a, rfl, upd_same, rfl, q a _ (.new ha) ha (.inl ⟨rfl, upd_same⟩)⟩
theorem mkV1 {C : Addr} {f : Str} {ok : V → Prop} {v : V} {Q : VK} {H : Hp} (hv : ok v) (q : ∀ a H', Ext H H' → H a = none → ExAt H' a C [(f, v)] → Q (.ref a) H') : ∀ a, H a = none → spI1 C f ok [.ref a, v] (upd H a (exo a C none)) (fun v H2 => v = .non ∧ Q (.ref a) H2) E0 := fun a ha =>
  ⟨a, v, rfl, upd_same, hv, fun dx hd hne => ⟨rfl, q a _ (.mut (.mut (.new ha) (by rw [upd_ne hne] at hd; exact hd)) ha) ha (.inr ⟨dx, upd_same, by rw [upd_ne hne, upd_same]⟩)⟩⟩
end Eb

namespace Eb
open PySem PySem.Spec PyProof.Rows L2
/-! ### the package's __init__s -/
structure XcFn (P : Program) (K : PySem.W.Frag) (C f : Addr) (qual : Str) (st : Stmt) (fd : FuncData) : Prop where
  ex : ∃ (oc : Value) (od : Option Addr) (kV doc pm : Value) (an : Option Addr) (cda : Addr) (ct : Value) (cc : Addr) (osl : Array (Option Value)),
    fd = PySem.W.ksFn "__init__" qual (defArgs st) (defBody st) (defScope st) .none kV doc pm an (.ref cda) ct cc ∧ K.lookup f = some ⟨oc, od, .func fd, osl⟩ ∧ PySem.W.codeIn K (.ref cda) qual = true ∧ XcC P K C cda cc
/-- a value that is put into a text -/
def fmtOk : V → Prop
  | .str y => y.length ≤ 1000000
  | .int i => i.natAbs.log2 < 1920
  | _ => False
/-- what is said of the parameter x, its i-th name, and only that -/
def Says (x : Str) (i : Nat) (ok : V → Prop) (e : Expr) : Prop := ∀ X : Cx, X.N[i]? = some x → Vis X.env.scope x → ∃ te, PE X e te ∧ ∀ σ H Q v, σ[i]? = some (some v) → ok v → (∀ s, Q (.str s) H) → te σ H Q
section
variable {x : Str} {i : Nat} {ok : V → Prop}
theorem says_const {m : Str} {j : Nat} {p : Pos} : Says x i ok (.Constant (.str m) j p) := fun X _ _ => ⟨_, pe_str, fun σ H Q v _ _ q => q m⟩
theorem fmt_run {X : Cx} (σ : L2.St) (H : Hp) (Q : VK) (v : V) (e : σ[i]? = some (some v)) (h : fmtOk v) (q : ∀ y : Str, y.length ≤ 1000000 → Q (.str y) H) : tFmt (tVar i) σ H Q := by
  refine ⟨v, e, ?_⟩
  cases v with
  | str y => exact .inl ⟨y, rfl, Nat.le_trans h (by rw [sizeLine_eq]; decide), q y h⟩
  | int a =>
    have l : (toString a).length ≤ 1921 := int_text_length_le (k := 1920) (by decide) h
    exact .inr ⟨a, rfl, h, q _ (by
      show (Str.ofString (toString a)).length ≤ 1000000
      rw [PySem.ofString_length]
      omega)⟩
  | _ => exact h.elim
theorem cat_le {a b : Str} {n k : Nat} (h1 : a.length ≤ n) (h2 : b.length ≤ k) (h : n + k ≤ 16777216) : (a ++ b).length ≤ sizeLine := by
  rw [sizeLine_eq]
  have e : (a ++ b).length = a.length + b.length := by
    show (a.cps ++ b.cps).size = a.cps.size + b.cps.size
    rw [Array.size_append]
  omega
theorem says_f2 {m : Str} {j : Nat} {p p2 p3 p4 : Pos} (hm : m.length ≤ 1000) (hd : (x == ("__debug__" : Str)) = false) (hcd : (x == ("__classdict__" : Str)) = false) : Says x i fmtOk (.JoinedStr [.Constant (.str m) j p, .FormattedValue (.Name x p2) (-1) none p3] p4) := fun X hN hv =>
  ⟨_, pe_joined (PJ.cons pe_str (PJ.cons (pe_fmt (pe_var hN hv hd hcd)) PJ.nil)), fun σ H Q v e h q => ⟨m, rfl, cat_le (n := 0) (Nat.zero_le _) hm (by decide), fmt_run (X := X) σ H _ v e h fun y hy =>
    ⟨y, rfl, cat_le (n := 1000) (k := 1000000) (by
      have : (Str.empty ++ m).length = m.length := by
        show (Str.empty.cps ++ m.cps).size = m.cps.size
        rw [Array.size_append]
        exact Nat.zero_add _
      omega) hy (by decide), q _⟩⟩⟩
theorem says_f3 {m m2 : Str} {j j2 : Nat} {p p2 p3 p4 p5 : Pos} (hm : m.length ≤ 1000) (hm2 : m2.length ≤ 1000) (hd : (x == ("__debug__" : Str)) = false) (hcd : (x == ("__classdict__" : Str)) = false) : Says x i fmtOk (.JoinedStr [.Constant (.str m) j p, .FormattedValue (.Name x p2) (-1) none p3, .Constant (.str m2) j2 p5] p4) := fun X hN hv =>
  ⟨_, pe_joined (PJ.cons pe_str (PJ.cons (pe_fmt (pe_var hN hv hd hcd)) (PJ.cons pe_str PJ.nil))), fun σ H Q v e h q => ⟨m, rfl, cat_le (n := 0) (Nat.zero_le _) hm (by decide), fmt_run (X := X) σ H _ v e h fun y hy => by
    have e1 : (Str.empty ++ m).length = m.length := by
      show (Str.empty.cps ++ m.cps).size = m.cps.size
      rw [Array.size_append]
      exact Nat.zero_add _
    have e2 : (Str.empty ++ m ++ y).length = m.length + y.length := by
      show ((Str.empty ++ m).cps ++ y.cps).size = _
      rw [Array.size_append]
      show (Str.empty ++ m).length + y.length = _
      rw [e1]
    exact ⟨y, rfl, cat_le (n := 1000) (k := 1000000) (by omega) hy (by decide), m2, rfl, cat_le (n := 1001000) (k := 1000) (by omega) hm2 (by decide), q _⟩⟩⟩
end
section
variable {P : Program} {w : World} {K : PySem.W.Frag} {mg : Str → Option Value} {base : Heap} {C f : Addr} {qual : Str} {st : Stmt} {fd : FuncData} {CX : CXT}
theorem ini0 {m : Str} {j : Nat} {p0 p1 p2 p3 p4 p5 : Pos} {ar : Arg} (F : XcFn P K C f qual st fd) (hmg : mg "super" = none) (hb : defBody st = [.Expr (.Call (.Attribute (.Call (.Name "super" p0) [] [] p1) "__init__" p2) [.Constant (.str m) j p5] [] p3) p4])
    (S : XScope ["self"] ["self"] (defScope st)) (hp : ((defArgs st).posonlyargs ++ (defArgs st).args).head? = some ar) (har : ar.arg = "self")
    (hev : ∀ env : Env, ∃ pl, eval (.Call (.Attribute (.Call (.Name "super" p0) [] [] p1) "__init__" p2) [.Constant (.str m) j p5] [] p3) env = (do
      let ov ← attributeBase (.Call (.Name "super" p0) [] [] p1) "__init__" env (eval (.Call (.Name "super" p0) [] [] p1) env)
      standAt p2.atName
      let (f, first) ← holding [ov] (getMethod ov "__init__" pl)
      callWith p3 f first (backTo p3 (starEach [.Constant (.str m) j p5] env)) []) := by exact fun _ => ⟨_, rfl⟩)
    (hsw : ∀ env : Env, swapsWith (.Call (.Attribute (.Call (.Name "super" p0) [] [] p1) "__init__" p2) [.Constant (.str m) j p5] [] p3) none p4.line env = pure false := by exact fun _ => rfl) : FnOk P w K mg base CX 1 f fd ["self"] (spI0 C) := by
  obtain ⟨oc, od, kV, doc, pm, an, cda, ct, cc, osl, rfl, lk, hcd, T⟩ := F.ex
  refine xc_ok lk hcd T hb S (fun vs H Q E ⟨a, e, _⟩ => by rw [e]; rfl) hp (by rw [har]; rfl) hmg (fun A outer s H vs Q E hr ⟨a, e, ha, q⟩ => ?_) (fun _ => rfl) (fun _ => rfl) hev hsw
  exact ⟨a, [], _, _, e, ha, pa_cons pe_str pa_nil, pss_nil, (show 1 ≤ 1000 by decide), ha, q⟩
theorem ini1 {x fn : Str} {ok : V → Prop} {e : Expr} {p0 p1 p2 p3 p4 q1 q2 q3 q4 : Pos} {ar : Arg} (F : XcFn P K C f qual st fd) (hmg : mg "super" = none)
    (hb : defBody st = [.Expr (.Call (.Attribute (.Call (.Name "super" p0) [] [] p1) "__init__" p2) [e] [] p3) p4, .Assign [.Attribute (.Name "self" q1) fn q2] (.Name x q3) q4])
    (S : XScope ["self", x] ["self", x] (defScope st)) (hp : ((defArgs st).posonlyargs ++ (defArgs st).args).head? = some ar) (har : ar.arg = "self") (hno : PySem.W.findIn K (.ref C) fn = some none) (hs : Says x 1 ok e)
    (hd : (x == ("__debug__" : Str)) = false) (hcd : (x == ("__classdict__" : Str)) = false)
    (he : ∀ env : Env, starEach [e] env = (false, eval e env) :: starEach [] env := by exact fun _ => rfl) (hpl : ∀ env : Env, (backTo p3 (starEach [] env)).any (·.1) = false := by exact fun _ => rfl)
    (hev : ∀ env : Env, ∃ pl, eval (.Call (.Attribute (.Call (.Name "super" p0) [] [] p1) "__init__" p2) [e] [] p3) env = (do
      let ov ← attributeBase (.Call (.Name "super" p0) [] [] p1) "__init__" env (eval (.Call (.Name "super" p0) [] [] p1) env)
      standAt p2.atName
      let (f, first) ← holding [ov] (getMethod ov "__init__" pl)
      callWith p3 f first (backTo p3 (starEach [e] env)) []) := by exact fun _ => ⟨_, rfl⟩)
    (hsw : ∀ env : Env, swapsWith (.Call (.Attribute (.Call (.Name "super" p0) [] [] p1) "__init__" p2) [e] [] p3) none p4.line env = pure false := by exact fun _ => rfl)
    (hsw2 : ∀ env : Env, swapsWith (.Name x q3) (some (.Attribute (.Name "self" q1) fn q2)) q4.line env = pure false := by exact fun _ => rfl) : FnOk P w K mg base CX 1 f fd ["self", x] (spI1 C fn ok) := by
  obtain ⟨oc, od, kV, doc, pm, an, cda, ct, cc, osl, rfl, lk, hcd', T⟩ := F.ex
  refine xc_ok lk hcd' T hb S (fun vs H Q E ⟨a, v, e, _⟩ => by rw [e]; rfl) hp (by rw [har]; rfl) hmg (fun A outer s H vs Q E hr ⟨a, v, ev, ha, hv, q⟩ => ?_) he hpl hev hsw
  obtain ⟨te, h1, h2⟩ := hs (xcCx CX P w K mg base ["self", x] qual (defScope st) f cda cc A outer s H E) rfl (.inl (S.par x (by simp)))
  refine ⟨a, [v], _, _, ev, ha, pa_cons h1 pa_nil (he _), pss_one (ps_ost (pe_var (i := 0) rfl (.inl (S.par "self" (by simp)))) (pe_var (i := 1) rfl (.inl (S.par x (by simp))) hd hcd) (hsw2 _)), ?_⟩
  subst ev
  refine h2 _ _ _ v rfl hv fun s => ⟨(show 1 ≤ 1000 by decide), ha, v, rfl, .ref a, rfl, a, C, rfl, T.o, hno, .inl ⟨ha, fun dx hdx hne => q dx hdx hne⟩⟩
end
end Eb

/-! The head's facts, with exception classes whose __init__ closes over __class__. -/
namespace Eb
open PySem PySem.Spec PyProof.Rows L2 He
def asE (g : Addr → Option Obj) : Nat → List Addr
  | 0 => [mainGlobals, cStatics]
  | n + 1 => growD g (asE g n)
structure XD where
  cls : Str
  qual : Str
  params : Arguments
  body : List Stmt
  scope : Scope
abbrev XfW : Type := Option (Str × Str × Arguments × FuncBody × Scope × Addr × List Str × Addr)
def xfW (K : PySem.W.Frag) (x : Str) : XfW := match K.lookup (fAd K (x, some "__init__")) with
  | some ⟨_, _, .func fd, _⟩ => some (fd.name, fd.qualname, fd.params, fd.body, fd.scope, fd.globals, fd.closure.map (·.1), fd.builtins)
  | _ => none
def XD.val (d : XD) : XfW := some ("__init__", d.qual, d.params, .stmts d.body, d.scope, mainGlobals, ["__class__"], builtinsNs)
def oexB (K : PySem.W.Frag) (C : Addr) : Bool := match K.lookup C with
  | some ⟨.type t, _, .cls cd, sl⟩ => (match cd.mro, sl.toList with
    | .ref C' :: bm, [_, _, _, _, some (.builtin n), _] => decide (t = "type") && (decide (C' = C) && (decide (n = "ValueError.__new__") && (!cd.hasDel && (cd.hasDict && PySem.HandSPX.refsVE bm))))
    | _, _ => false)
  | _ => false
theorem oexB_ok {K : PySem.W.Frag} {C : Addr} (h : oexB K C = true) : ∃ nm q N bs bm sn sub ab col dd k0 k1 k2 k3 k5, K.lookup C = some (excClassObj nm q C N bs bm true sn sub ab col dd k0 k1 k2 k3 k5 "ValueError.__new__") ∧ PySem.HandSPX.refsVE bm = true := by
  unfold oexB at h
  split at h
  · rename_i t dd cd sl ho
    split at h
    · rename_i C' bm k0 k1 k2 k3 n k5 hm hs
      obtain ⟨h0, h⟩ := ba h
      obtain ⟨h1, h⟩ := ba h
      obtain ⟨h2, h⟩ := ba h
      obtain ⟨h3, h⟩ := ba h
      obtain ⟨h4, h5⟩ := ba h
      have e0 := of_decide_eq_true h0
      have e1 := of_decide_eq_true h1
      have e2 := of_decide_eq_true h2
      have e3 : cd.hasDel = false := by
        cases z : cd.hasDel with
        | false => rfl
        | true => rw [z] at h3; cases h3
      subst e0 e1 e2
      obtain ⟨nm, bs, mro, ns, qn, hd, sn, sub, ab, col, del⟩ := cd
      dsimp only at hm e3 h4
      subst hm e3 h4
      have hsl : sl = #[k0, k1, k2, k3, some (.builtin "ValueError.__new__"), k5] := by
        obtain ⟨l⟩ := sl
        simp only at hs
        rw [hs]
      subst hsl
      exact ⟨nm, qn, ns, bs, bm, sn, sub, ab, col, dd, k0, k1, k2, k3, k5, ho, h5⟩
    · cases h
  · cases h
def codeB (P : Program) (K : PySem.W.Frag) (cda : Addr) : Bool := match K.lookup cda with
  | some ⟨_, _, .fields vs, _⟩ => (match (vs[2]? : Option Value) with
    | some (Value.str file _) => (P.main.file == file)
    | _ => false)
  | _ => false
theorem codeB_ok {P : Program} {K : PySem.W.Frag} {cda : Addr} (h : codeB P K cda = true) : ∃ ccl cdd vs ccs file tf, K.lookup cda = some ⟨ccl, cdd, .fields vs, ccs⟩ ∧ vs[2]? = some (.str file tf) ∧ (P.main.file == file) = true := by
  unfold codeB at h
  split at h
  · rename_i ho
    split at h
    · rename_i hv
      exact ⟨_, _, _, _, _, _, ho, hv, h⟩
    · cases h
  · cases h
def cellB (K : PySem.W.Frag) (cc C : Addr) : Bool := match K.lookup cc with
  | some ⟨_, _, .cell (some (.ref D)), _⟩ => decide (D = C)
  | _ => false
theorem cellB_ok {K : PySem.W.Frag} {cc C : Addr} (h : cellB K cc C = true) : ∃ cl cld csl, K.lookup cc = some ⟨cl, cld, .cell (some (.ref C)), csl⟩ := by
  unfold cellB at h
  split at h
  · rename_i ho
    have e := of_decide_eq_true h
    subst e
    exact ⟨_, _, _, ho⟩
  · cases h
def finB (P : Program) (K : PySem.W.Frag) (x qual : Str) : Bool := match K.lookup (fAd K (x, some "__init__")) with
  | some ⟨_, _, .func fd, _⟩ => (match fd.code, fd.closure, fd.defaults with
    | .ref cda, [(_, cc)], .none => PySem.W.codeIn K (.ref cda) qual && (codeB P K cda && cellB K cc (ga K x))
    | _, _, _ => false)
  | _ => false
def eqV (a b : Option Value) : Bool := decide (a = b)
def eqB (a : Option Bool) (b : Bool) : Bool := decide (a = some b)
/-- all that is asked of a class of the package's errors -/
def xcB (P : Program) (K : PySem.W.Frag) (x qual : Str) : Bool := oexB K (ga K x) && (eqO (PySem.W.findIn K (.ref (ga K x)) "__setattr__") (some (some (.builtin "object.__setattr__"))) && (eqB (PySem.W.subIn K (.ref (ga K x)) (.type "BaseException")) true &&
  (eqV (PySem.W.typeIn K (.ref (ga K x))) (some (.type "type")) && (PySem.W.keepIn K (.ref (ga K x)) && (finB P K x qual && (eqO (PySem.W.ks_superIn K (ga K x) (ga K x) "__init__") (some (some (.builtin "ValueError.__init__"))) &&
  (eqB (PySem.W.subIn K (.ref (ga K x)) (.type "ValueError")) true && (eqB (PySem.W.mroIn K (ga K x) (.ref (ga K x))) true && (eqO (PySem.W.nsIn K cStatics "thirdparty.any") (some none) && (!(P.main.scope.names.lookup ("super" : Str)).isSome &&
  (eqO (PySem.W.findIn K (.ref (ga K x)) "__init__") (some (some (.ref (fAd K (x, some "__init__"))))) && (eqV (PySem.W.typeIn K (.ref (fAd K (x, some "__init__")))) (some (.type "function")) && (xfB K (ga K x) &&
  (eqO (PySem.W.findIn K (.ref (ga K x)) "__class__") (some (some (.builtin "object.__class__"))) && (eqO (PySem.W.specialIn K (.builtin "object.__class__") "__get__") (some (some (.builtin "getset_descriptor.__get__"))) && (eqB (PySem.W.takesIn K (.builtin "object.__class__")) true &&
  eqB (PySem.W.mroIn K (ga K x) (.type "object")) true))))))))))))))))
structure XcAll (P : Program) (K : PySem.W.Frag) (x : Str) (st : Stmt) (qual : Str) (f : Addr) (fd : FuncData) : Prop where
  fn : XcFn P K (ga K x) f qual st fd
  o : OexC K (ga K x)
  ini : PySem.W.findIn K (.ref (ga K x)) "__init__" = some (some (.ref f))
  ty : PySem.W.typeIn K (.ref f) = some (.type "function")
  xf : XfC K (ga K x)
  ec : ExcC K (ga K x)
def mkXD (x qual : Str) (st : Stmt) : XD := ⟨x, qual, defArgs st, defBody st, defScope st⟩
theorem xc_all {P : Program} {K : PySem.W.Frag} {x qual : Str} {st : Stmt} (e : xfW K x = (mkXD x qual st).val) (h : xcB P K x qual = true) : ∃ f fd, XcAll P K x st qual f fd := by
  unfold xcB at h
  obtain ⟨h1, h⟩ := ba h
  obtain ⟨h2, h⟩ := ba h
  obtain ⟨h3, h⟩ := ba h
  obtain ⟨h4, h⟩ := ba h
  obtain ⟨h5, h⟩ := ba h
  obtain ⟨h6, h⟩ := ba h
  obtain ⟨h7, h⟩ := ba h
  obtain ⟨h8, h⟩ := ba h
  obtain ⟨h9, h⟩ := ba h
  obtain ⟨h10, h⟩ := ba h
  obtain ⟨h11, h⟩ := ba h
  obtain ⟨h12, h⟩ := ba h
  obtain ⟨h13, h⟩ := ba h
  obtain ⟨h14, h⟩ := ba h
  obtain ⟨h15, h⟩ := ba h
  obtain ⟨h16, h⟩ := ba h
  obtain ⟨h17, h18⟩ := ba h
  have O : OexC K (ga K x) := ⟨oexB_ok h1, eqO_ok h2, of_decide_eq_true h3, of_decide_eq_true h4, h5⟩
  have XF := xfB_ok h14
  unfold finB at h6
  unfold xfW at e
  split at h6
  · rename_i oc od fd osl lk
    rw [lk] at e
    split at h6
    · rename_i cda n cc hcd hcl hdf
      obtain ⟨c1, c2⟩ := ba h6
      obtain ⟨c3, c4⟩ := ba c2
      obtain ⟨n1, n2, n3, n4, n5, n6, n7, n8, n9, n10, n11, n12, n13, n14, n15⟩ := fd
      dsimp only at hcd hcl hdf
      subst hcd hcl hdf
      have e2 : (some (n1, n2, n3, n4, n5, n6, [n], n15) : XfW) = (some (("__init__" : Str), qual, defArgs st, FuncBody.stmts (defBody st), defScope st, mainGlobals, [("__class__" : Str)], builtinsNs) : XfW) := e
      simp only [Option.some.injEq, Prod.mk.injEq, List.cons.injEq, and_true] at e2
      obtain ⟨k1, k2, k3, k4, k5, k6, k7, k8⟩ := e2
      subst k1 k2 k3 k4 k5 k6 k7 k8
      have ht : (P.main.scope.names.lookup ("super" : Str)).isSome = false := by
        cases z : (P.main.scope.names.lookup ("super" : Str)).isSome with
        | false => rfl
        | true => rw [z] at h11; cases h11
      exact ⟨_, _, ⟨⟨oc, od, n9, n10, n11, n12, cda, n14, cc, osl, rfl, lk, c1, ⟨O, codeB_ok c3, cellB_ok c4, eqO_ok h7, of_decide_eq_true h8, of_decide_eq_true h9, eqO_ok h10, ht⟩⟩, O, eqO_ok h12, of_decide_eq_true h13, XF,
        ⟨XF.ga, XF.gg, XF.exC, XF.hdC, eqO_ok h15, eqO_ok h16, of_decide_eq_true h17, of_decide_eq_true h18⟩⟩⟩
    · cases h6
  · cases h6
/-! ### the Hook -/
structure HD where
  n : Nat
  fa : List Fa
  fn : List DefD
  ts : List Tab := []
  tf : List Defn := []
  xs : List XD := []
  cm : List He5.DefA := []
  ex : PySem.W.Frag → Bool := fun _ => true
abbrev AlE : Type := AlT × Bool × List XfW × List He5.FnW
def obsF (P : Program) (D : HD) (g : Addr → Option Obj) (K : PySem.W.Frag) : AlE := (obsT D.fa D.fn D.ts K, ((D.ex K && tabsB g D.tf K) && D.xs.all (fun d => xcB P K d.cls d.qual)) && D.cm.all (fun d => d.ok K), D.xs.map (fun d => xfW K d.cls), D.cm.map fun d => He5.fnA K (d.at_ K))
def obsFG (P : Program) (D : HD) (g : Addr → Option Obj) : AlE := obsF P D g (frT g (asE g D.n))
def valF (D : HD) (w : World) : AlE := (valT D.fn D.ts w, true, D.xs.map XD.val, D.cm.map He5.DefA.val)
structure SaysF (P : Program) (D : HD) (w : World) (h : Heap) (K : PySem.W.Frag) : Prop where
  x : SaysX D.fa D.fn D.ts D.tf D.ex w h K
  c : ∀ d ∈ D.xs, xcB P K d.cls d.qual = true
  v : D.xs.map (fun d => xfW K d.cls) = D.xs.map XD.val
  m : ∀ d ∈ D.cm, d.ok K = true
  mv : D.cm.map (fun d => He5.fnA K (d.at_ K)) = D.cm.map He5.DefA.val
theorem saysF_of {P : Program} {D : HD} {w : World} {h : Heap} (e : obsFG P D h.get? = valF D w) : SaysF P D w h (frT h.get? (asE h.get? D.n)) := by
  have e1 : obsT D.fa D.fn D.ts (frT h.get? (asE h.get? D.n)) = valT D.fn D.ts w := congrArg (fun z : AlE => z.1) e
  have e2 : (((D.ex (frT h.get? (asE h.get? D.n)) && tabsB h.get? D.tf (frT h.get? (asE h.get? D.n))) && D.xs.all (fun d => xcB P (frT h.get? (asE h.get? D.n)) d.cls d.qual)) && D.cm.all (fun d => d.ok (frT h.get? (asE h.get? D.n)))) = true := congrArg (fun z : AlE => z.2.1) e
  have e3 : D.xs.map (fun d => xfW (frT h.get? (asE h.get? D.n)) d.cls) = D.xs.map XD.val := congrArg (fun z : AlE => z.2.2.1) e
  have e6 : D.cm.map (fun d => He5.fnA (frT h.get? (asE h.get? D.n)) (d.at_ (frT h.get? (asE h.get? D.n)))) = D.cm.map He5.DefA.val := congrArg (fun z : AlE => z.2.2.2) e
  obtain ⟨e2, e7⟩ := ba e2
  obtain ⟨e4, e5⟩ := ba e2
  obtain ⟨h1, h2⟩ := ba e4
  have key : ∀ p ∈ D.tf, PySem.W.codeHdIn (frT h.get? (asE h.get? D.n)) (cT (frT h.get? (asE h.get? D.n)) p).1 (cT (frT h.get? (asE h.get? D.n)) p).2 = true ∧ ∃ o, h.get? (cT (frT h.get? (asE h.get? D.n)) p).2 = some o ∧ emptyTab o = true := fun p hp => by
    obtain ⟨h3, h4⟩ := ba (List.all_eq_true.mp h2 p hp)
    refine ⟨h3, ?_⟩
    cases q : h.get? (cT (frT h.get? (asE h.get? D.n)) p).2 with
    | none =>
      rw [q] at h4
      cases h4
    | some o =>
      rw [q] at h4
      exact ⟨o, rfl, h4⟩
  exact ⟨⟨e1, h1, fun p hp => (key p hp).1, fun p hp => by
    obtain ⟨_, o, q, z⟩ := key p hp
    exact frT_none q z, fun p hp => by
    obtain ⟨_, o, q, z⟩ := key p hp
    rw [q, emptyTab_eq z]⟩, fun d hd => List.all_eq_true.mp e5 d hd, e3, fun d hd => List.all_eq_true.mp e7 d hd, e6⟩
def hookF (P : Program) (D : HD) : PySem.W.Hook where
  α := AlE
  obs := fun s => obsFG P D s.heap.get?
  val := fun w => valF D w
  says := fun w h => ∃ K : PySem.W.Frag, K.In h ∧ SaysF P D w h K
  of := fun _ _ e => ⟨_, frT_in, saysF_of e⟩
  keeps := fun _ _ _ ⟨K, hK, c⟩ k => ⟨K, PySem.W.Frag.In.keeps hK k, ⟨⟨c.x.t, c.x.more, c.x.hd, c.x.out, fun p hp => k _ _ (c.x.empty p hp)⟩, c.c, c.v, c.m, c.mv⟩⟩
theorem obsFG_eq {P : Program} {D : HD} {g : Addr → Option Obj} {s : Shared} (h : ∀ a, g a = s.heap.get? a) : obsFG P D g = (hookF P D).obs s := by
  have e : g = s.heap.get? := funext h
  rw [e] <;> rfl
section
variable {P : Program} {D : HD} {w : World} {h : Heap} {K : PySem.W.Frag}
theorem SaysF.d (c : SaysF P D w h K) : SaysD D.fa D.fn K := c.x.t.d
theorem SaysF.exc (c : SaysF P D w h K) {x qual : Str} {st : Stmt} (hm : mkXD x qual st ∈ D.xs) : ∃ f fd, XcAll P K x st qual f fd := by
  refine xc_all ?_ (c.c _ hm)
  obtain ⟨i, hi, e⟩ := List.mem_iff_getElem.mp hm
  have q : (D.xs.map (fun d => xfW K d.cls))[i]? = (D.xs.map XD.val)[i]? := by rw [c.v]
  rw [List.getElem?_map, List.getElem?_map, List.getElem?_eq_getElem hi, e] at q
  exact Option.some.inj q
/-- a classmethod's def -/
theorem SaysF.cmd (c : SaysF P D w h K) (i : Nat) {d : He5.DefA} (hm : D.cm[i]? = some d) : ∃ fd, L2.FunD K d.name d.qual d.params d.body d.scope (d.dvs K) (d.kws K) (d.at_ K) fd := by
  refine He5.DefA.funD ?_ (c.m _ (List.mem_of_getElem? hm))
  have q : (D.cm.map (fun d => He5.fnA K (d.at_ K)))[i]? = (D.cm.map He5.DefA.val)[i]? := by rw [c.mv]
  rw [List.getElem?_map, List.getElem?_map, hm] at q
  exact Option.some.inj q
/-- a class with its __init__'s promise -/
theorem mk_of_all {mg : Str → Option Value} {base : Heap} {x qual : Str} {st : Stmt} {ps : List Str} {sp : Sp} {f : Addr} {fd : FuncData} (A : XcAll P K x st qual f fd) (g : mg x = some (.ref (ga K x)))
    (ok : FnOk P w K mg base (L2.CX P w) 1 f fd ps sp)
    (hb : ∀ (kV doc pm : Value) (an : Option Addr) (cda : Addr) (ct : Value) (cc : Addr) (us : List Value), us.length = ps.length → bindArgs (PySem.W.ksFn "__init__" qual (defArgs st) (defBody st) (defScope st) .none kV doc pm an (.ref cda) ct cc) ⟨us, []⟩ = pure (ps.zip us)) :
    Mk P w K mg base x (ga K x) ps sp := by
  obtain ⟨oc, od, kV, doc, pm, an, cda, ct, cc, osl, rfl, _⟩ := A.fn.ex
  exact ⟨A.o, g, f, _, A.ini, A.ty, ok, .all (hb kV doc pm an cda ct cc)⟩
end
end Eb

/-! Further rules. -/
namespace Eb
open PySem PySem.Spec PyProof.Rows L2
def anyOk : V → Prop := fun _ => True
def zRepr : List V → Hp → VK → Prop := fun xs H Q => match xs with
  | [.int i] => i.natAbs.log2 < 1920 ∧ Q (.str (toString i)) H
  | [.str y] => (reprText y).length ≤ sizeLine ∧ Q (.str (reprText y)) H
  | [.bl b] => Q (.str (if b then "True" else "False")) H
  | _ => False
section
variable {X : Cx}
theorem cr_repr : CallR X (.builtin "repr") zRepr := by
  intro pins s σ H xs us Q I r h
  unfold zRepr at h
  split at h
  · obtain ⟨hz, q⟩ := h
    obtain ⟨u, rfl, t, rfl⟩ := vals1 r
    exact PySem.P.repr_of_int hz ⟨.str _, H, I.tok _, ⟨_, rfl⟩, q⟩
  · obtain ⟨hz, q⟩ := h
    obtain ⟨u, rfl, t, rfl⟩ := vals1 r
    exact PySem.P.repr_of_str ⟨.str _, H, I.tok _, ⟨_, rfl⟩, q⟩ hz
  · obtain ⟨u, rfl, e⟩ := vals1 r
    cases e
    exact PySem.P.repr_of_bool ⟨.str _, H, I.tok _, ⟨_, rfl⟩, h⟩
  · exact h.elim
theorem cr_sum (hc : X.calm = true := by rfl) : CallR X (.builtin "sum") (zSum X.K) := CallR.imp (L2.cr_sum hc) fun xs H Q q => by
  unfold zSum at q
  split at q
  · obtain ⟨ns, h1, h2⟩ := q
    exact ⟨_, ns, rfl, h1, h2⟩
  · exact q.elim
end
def yPar3 (i j l : Nat) (ta : TA) : TS := fun D σ H => ta σ H fun vs H1 => match vs with
  | [u, v, w] => D.nx (((σ.set i (some u)).set j (some v)).set l (some w)) H1
  | _ => False
theorem ys_par3 {X : Cx} {i j l : Nat} {st : Stmt} {ta : TA} (h : PS X st (tPar3 i j l (upA ta))) : PS X st (yPar3 i j l ta) :=
  PS.imp h fun D σ H q => ⟨_, q, fun vs H1 q1 => by
    match vs, q1 with
    | [u, v, w], q1 => exact ⟨u, v, w, rfl, q1⟩⟩
theorem upd_idem {H : Hp} {a : Addr} {o1 o2 : HO} : upd (upd H a o1) a o2 = upd H a o2 := by
  funext b
  by_cases h : b = a
  · rw [h, upd_same, upd_same]
  · rw [upd_ne h, upd_ne h, upd_ne h]
theorem log_1920 {n : Nat} (h : n < 2 ^ 60) : ((n : Nat) : Int).natAbs.log2 < 1920 := by
  have e : ((n : Nat) : Int).natAbs = n := by simp
  rw [e]
  by_cases h0 : n = 0
  · subst h0
    decide
  · exact Nat.lt_trans ((Nat.log2_lt h0).mpr h) (by decide)
/-- a plain comprehension over a list: what the i-th turn makes, nothing else done -/
theorem lc_list {K : PySem.W.Frag} {i : Nat} {tl te : TE} {σ : L2.St} {H : Hp} {Q : VK} {a : Addr} {xs : List V} (fv : V → V) (h : ∀ R, tl σ H R = R (.ref a) H) (hs : SqL K H a xs) (hl : xs.length < sizeLine)
    (hw : ∀ x, wipe ((wipe σ [i]).set i (some x)) [i] = wipe σ [i])
    (hf : ∀ D H' x Q', H D = none → Ext H H' → x ∈ xs → Q' (fv x) H' → te ((wipe σ [i]).set i (some x)) H' Q') (hq : ∀ D, H D = none → Q (.ref D) (upd H D (.lst (xs.map fv)))) : yLc (jLst K tl) (gName i) tYes te [i] σ H Q := by
  show tl σ H _
  rw [h]
  refine ⟨xs, hs, fun D hD => ⟨fun n acc H' => acc = (xs.take n).map fv ∧ H' = upd H D (.lst acc), ⟨by simp, rfl⟩, fun n acc H' hn ⟨e1, e2⟩ => ?_, fun n x acc H' H2 hn ⟨e1, e2⟩ y => ?_, fun acc H' ⟨e1, e2⟩ => ?_⟩⟩
  · subst e1 e2
    refine ⟨?_, upd_same, ?_⟩
    · exact (Kp.new hD).sqL hs
    · rw [List.length_map, List.length_take]
      omega
  · subst e1 e2
    obtain ⟨e, hx⟩ := y
    subst e
    refine ⟨hw x, brT rfl (hf D _ x _ hD (Ext.new hD) (List.mem_of_getElem? hx) ⟨upd_same, ?_, upd_idem⟩)⟩
    have h1 : n < xs.length := hn
    rw [List.getElem?_eq_getElem h1] at hx
    rw [List.take_succ_eq_append_getElem h1, List.map_append, Option.some.inj hx]
    rfl
  · subst e1 e2
    rw [List.take_length]
    exact hq D hD
section
variable {P : Program} {w : World} {K : PySem.W.Frag} {mg : Str → Option Value} {base : Heap} {C f : Addr} {qual : Str} {st : Stmt} {fd : FuncData} {CX : CXT}
theorem iniL {x fn m : Str} {j : Nat} {p0 p1 p2 p3 p4 q1 q2 q4 a1 a2 a3 a4 a5 a6 b1 b2 b3 : Pos} {ar : Arg} (F : XcFn P K C f qual st fd) (hmg : mg "super" = none) (hml : mg "len" = none) (hmi : mg "list" = none)
    (hb : defBody st = [.Expr (.Call (.Attribute (.Call (.Name "super" p0) [] [] p1) "__init__" p2) [.JoinedStr [.FormattedValue (.Call (.Name "len" a1) [.Name x a2] [] a3) (-1) none a4, .Constant (.str m) j a5] a6] [] p3) p4,
      .Assign [.Attribute (.Name "self" q1) fn q2] (.Call (.Name "list" b1) [.Name x b2] [] b3) q4])
    (S : XScope ["self", x] ["self", x] (defScope st)) (hp : ((defArgs st).posonlyargs ++ (defArgs st).args).head? = some ar) (har : ar.arg = "self") (hno : PySem.W.findIn K (.ref C) fn = some none)
    (hd : (x == ("__debug__" : Str)) = false) (hcd : (x == ("__classdict__" : Str)) = false) (hgl : (defScope st).names.lookup ("len" : Str) = some .globalImplicit) (hgi : (defScope st).names.lookup ("list" : Str) = some .globalImplicit) (hm : m.length ≤ 1000)
    (hev : ∀ env : Env, ∃ pl, eval (.Call (.Attribute (.Call (.Name "super" p0) [] [] p1) "__init__" p2) [.JoinedStr [.FormattedValue (.Call (.Name "len" a1) [.Name x a2] [] a3) (-1) none a4, .Constant (.str m) j a5] a6] [] p3) env = (do
      let ov ← attributeBase (.Call (.Name "super" p0) [] [] p1) "__init__" env (eval (.Call (.Name "super" p0) [] [] p1) env)
      standAt p2.atName
      let (f, first) ← holding [ov] (getMethod ov "__init__" pl)
      callWith p3 f first (backTo p3 (starEach [.JoinedStr [.FormattedValue (.Call (.Name "len" a1) [.Name x a2] [] a3) (-1) none a4, .Constant (.str m) j a5] a6] env)) []) := by exact fun _ => ⟨_, rfl⟩)
    (hsw : ∀ env : Env, swapsWith (.Call (.Attribute (.Call (.Name "super" p0) [] [] p1) "__init__" p2) [.JoinedStr [.FormattedValue (.Call (.Name "len" a1) [.Name x a2] [] a3) (-1) none a4, .Constant (.str m) j a5] a6] [] p3) none p4.line env = pure false := by exact fun _ => rfl)
    (hsw2 : ∀ env : Env, swapsWith (.Call (.Name "list" b1) [.Name x b2] [] b3) (some (.Attribute (.Name "self" q1) fn q2)) q4.line env = pure false := by exact fun _ => rfl) : FnOk P w K mg base CX 1 f fd ["self", x] (spIL K C fn) := by
  obtain ⟨oc, od, kV, doc, pm, an, cda, ct, cc, osl, rfl, lk, hcd', T⟩ := F.ex
  refine xc_ok lk hcd' T hb S (fun vs H Q E ⟨a, v, ys, e, _⟩ => by rw [e]; rfl) hp (by rw [har]; rfl) hmg (fun A outer s H vs Q E hr ⟨a, p, ys, ev, ha, hS, hlen, q⟩ => ?_) (fun _ => rfl) (fun _ => rfl) hev hsw
  have v1 : ∀ {pos : Pos}, PE (xcCx CX P w K mg base ["self", x] qual (defScope st) f cda cc A outer s H E) (.Name x pos) (tVar 1) := pe_var (i := 1) rfl (.inl (S.par x (by simp))) hd hcd
  refine ⟨a, [.ref p], _, _, ev, ha, pa_cons (pe_joined (PJ.cons (pe_fmt (pe_callB cr_len hgl hml boot_len (pa_cons v1 pa_nil))) (PJ.cons pe_str PJ.nil))) pa_nil,
    pss_one (ps_ost (pe_var (i := 0) rfl (.inl (S.par "self" (by simp)))) (pe_callTy cr_list hgi hmi (by decide +kernel) (pa_cons v1 pa_nil)) (hsw2 _)), ?_⟩
  subst ev
  have l30 : ((ys.length : Nat) : Int).natAbs.log2 < 1920 := log_1920 (by omega)
  have lt : (toString ((ys.length : Nat) : Int)).length ≤ 1921 := int_text_length_le (k := 1920) (by decide) l30
  have ls : (Str.ofString (toString ((ys.length : Nat) : Int))).length ≤ 1921 := by rw [PySem.ofString_length]; exact lt
  refine ⟨.ref p, rfl, ys, hS, .inr ⟨_, rfl, l30, _, rfl, cat_le (n := 0) (k := 1921) (Nat.zero_le _) ls (by decide), m, rfl, cat_le (n := 1921) (k := 1000) ?_ hm (by decide), ?_⟩⟩
  · have : (Str.empty ++ Str.ofString (toString ((ys.length : Nat) : Int))).length = (Str.ofString (toString ((ys.length : Nat) : Int))).length := by
      rw [Str.length_append]
      exact Nat.zero_add _
    exact Nat.le_trans (Nat.le_of_eq this) ls
  · refine ⟨(show 1 ≤ 1000 by decide), ha, .ref p, rfl, ys, hS, fun l hl => ⟨.ref a, rfl, a, C, rfl, T.o, hno, .inl ⟨?_, fun dx hdx hne => ?_⟩⟩⟩
    · rw [upd_ne (ne_of_none ha hl)]
      exact ha
    · have hdl : dx ≠ l := fun z => by rw [z, upd_same] at hdx; cases hdx
      exact q l dx hl (fun z => by rw [z, ha] at hl; cases hl) (by rw [upd_ne hdl] at hdx; exact hdx) hne hdl
end
theorem mkVL {K : PySem.W.Frag} {C : Addr} {f : Str} {p : Addr} {ys : List V} {Q : VK} {H : Hp} (hS : SqL K H p ys ∨ SqT K H p ys) (hl : ys.length < 10 ^ 9) (q : ∀ a l H', Ext H H' → H a = none → H l = none → H' l = some (.lst ys) → ExAt H' a C [(f, .ref l)] → Q (.ref a) H') :
    ∀ a, H a = none → spIL K C f [.ref a, .ref p] (upd H a (exo a C none)) (fun v H2 => v = .non ∧ Q (.ref a) H2) E0 := fun a ha => by
  refine ⟨a, p, ys, rfl, upd_same, ?_, hl, fun l dx hl0 hla hd hda hdl => ⟨rfl, ?_⟩⟩
  · have k : Kp H (upd H a (exo a C none)) := Kp.new ha
    rcases hS with h | h
    · exact .inl (k.sqL h)
    · exact .inr (k.sqT h)
  · have hl1 : H l = none := by rw [upd_ne hla] at hl0; exact hl0
    have hd1 : H dx = none := by rw [upd_ne hda] at hd; exact hd
    refine q a l _ ((((Ext.new ha).mut hl1).mut hd1).mut ha) ha hl1 ?_ (.inr ⟨dx, upd_same, by rw [upd_ne hda, upd_same]⟩)
    rw [upd_ne hla, upd_ne hdl.symm, upd_same]
end Eb

/-! dict(zip(t, u)) of tuples. -/
namespace Eb
open PySem PySem.Spec PyProof.Rows L2
section
variable {prog : Program} {w : World} {A : Around} {E : Value → Shared → Prop} {s : Shared}
theorem zipTH_next_item {z TI TO T i1 i2 l1 l2 : Addr} {f : Bool} {oT : Obj} {k1 k2 : Nat} {xs ys : Array Value} {x y : Value} {Q : Value → Shared → Prop} (D : ZipApart z TI TO i1 i2 l1 l2)
    (hz : IsZipHeld s.heap z TI TO T f) (hT : s.heap.get? T = some oT) (hTI : IsPair s.heap TI (.ref i1) (.ref i2))
    (h1 : s.heap.IsTupleIter i1 l1 k1) (h2 : s.heap.IsTupleIter i2 l2 k2) (hl1 : s.heap.IsTuple l1 xs) (hl2 : s.heap.IsTuple l2 ys) (hx : xs[k1]? = some x) (hy : ys[k2]? = some y)
    (hQ : ∀ h', IsZipHeld h' z TI TO T true → h'.IsTupleIter i1 l1 (k1 + 1) → h'.IsTupleIter i2 l2 (k2 + 1) → IsPair h' s.heap.objs.size x y → h'.objs.size = s.heap.objs.size + 1 →
      (∀ c o, c ≠ z → c ≠ i1 → c ≠ i2 → s.heap.get? c = some o → h'.get? c = some o) → Q (.ref s.heap.objs.size) { s with heap := h' }) :
    wpAny (model prog w) A (Builtin.«zip.__next__» ⟨[.ref z], []⟩) (fun fin s' => ∃ v, fin = .done (.ret v) ∧ Q v s') E s := by
  show wpAny _ _ (field (.ref z) 2 >>= _) _ _ _
  refine wpAny_bind (wpAny_field hz rfl (x := .bool false) rfl ?_)
  show wpAny _ _ (field (.ref z) 3 >>= _) _ _ _
  refine wpAny_bind (wpAny_field hz rfl (x := .ref TI) rfl ?_)
  refine wpAny_bind (wpAny_seqItems hTI rfl ?_)
  show wpAny _ _ (Builtin.SmallTypes.ownedTupleIsFree (.ref z) >>= _) _ _ _
  refine wpAny_bind (wpAny_tupleHeld_zip hz hT fun h₁ hz₁ hs₁ => ?_)
  simp only [Bool.false_eq_true, if_false]
  refine wpAny_bind ?_
  rw [← Array.forIn_toList]
  simp only [List.forIn_cons, List.forIn_nil]
  refine wpAny_bind (wpAny_bind (wpAny_holding ?_))
  show wpAny _ _ (Builtin.SmallTypes.nextOf (.ref i1) >>= _) _ _ _
  refine wpAny_bind (RZ.nextOf_tuple_item (s := { s with heap := h₁ }) (h1.extBut hs₁.extBut D.i1z) (hl1.extBut hs₁.extBut D.l1z) hx fun h₂ h1₂ hs₂ => wpAny_pure ?_)
  refine wpAny_pure ?_
  refine wpAny_bind (wpAny_bind (wpAny_holding ?_))
  show wpAny _ _ (Builtin.SmallTypes.nextOf (.ref i2) >>= _) _ _ _
  refine wpAny_bind (RZ.nextOf_tuple_item (s := { s with heap := h₂ }) ((h2.extBut hs₁.extBut D.i2z).extBut hs₂.extBut D.i12.symm) ((hl2.extBut hs₁.extBut D.l2z).extBut hs₂.extBut D.l2i1) hy fun h₃ h2₃ hs₃ => wpAny_pure ?_)
  refine wpAny_pure (wpAny_pure ?_)
  show wpAny _ _ (newTuple [x, y] >>= _) _ _ _
  refine wpAny_bind (wpAny_newTuple ?_)
  have hsz : h₃.objs.size = s.heap.objs.size := by rw [hs₃.1, hs₂.1, hs₁.1]
  have hz₃ : IsZipHeld h₃ z TI TO T true := hs₃.extBut _ _ D.i2z.symm (hs₂.extBut _ _ D.i1z.symm hz₁)
  have hk : ∀ c o, c ≠ z → c ≠ i1 → c ≠ i2 → s.heap.get? c = some o → h₃.get? c = some o := fun c o c1 c2 c3 e => hs₃.extBut _ _ c3 (hs₂.extBut _ _ c2 (hs₁.extBut _ _ c1 e))
  have h1₃ : h₃.IsTupleIter i1 l1 (k1 + 1) := h1₂.extBut hs₃.extBut D.i12
  refine wpAny_pure ⟨_, rfl, ?_⟩
  show Q (.ref h₃.objs.size) _
  have hp : IsPair (h₃.push { cls := .type "tuple", data := .seq #[x, y] }) h₃.objs.size x y := Heap.get?_push_size _ rfl
  have hz4 : (h₃.push { cls := .type "tuple", data := .seq #[x, y] }).objs.size = h₃.objs.size + 1 := Heap.size_push ..
  rw [hsz] at hp hz4 ⊢
  exact hQ _ (Heap.get?_push_of_some _ hz₃) (h1₃.at fun o e => Heap.get?_push_of_some _ e) (h2₃.at fun o e => Heap.get?_push_of_some _ e) hp hz4 fun c o c1 c2 c3 e => Heap.get?_push_of_some _ (hk c o c1 c2 c3 e)

theorem zipTH_next_end {z TI TO T i1 i2 l1 l2 : Addr} {f : Bool} {oT : Obj} {k1 k2 : Nat} {xs ys : Array Value} {Q : Fin → Shared → Prop} (hh : A.handled = none) (D : ZipApart z TI TO i1 i2 l1 l2)
    (hz : IsZipHeld s.heap z TI TO T f) (hT : s.heap.get? T = some oT) (hTI : IsPair s.heap TI (.ref i1) (.ref i2))
    (h1 : s.heap.IsTupleIter i1 l1 k1) (h2 : s.heap.IsTupleIter i2 l2 k2) (hl1 : s.heap.IsTuple l1 xs) (hl2 : s.heap.IsTuple l2 ys) (hend : xs[k1]? = none ∨ ys[k2]? = none)
    (hE : ∀ h' e, (∀ c o, c ≠ z → c ≠ i1 → c ≠ i2 → s.heap.get? c = some o → h'.get? c = some o) → (∃ o, h'.get? e = some o ∧ o.cls = .type "StopIteration") → E (.ref e) { s with heap := h' }) :
    wpAny (model prog w) A (Builtin.«zip.__next__» ⟨[.ref z], []⟩) Q E s := by
  show wpAny _ _ (field (.ref z) 2 >>= _) _ _ _
  refine wpAny_bind (wpAny_field hz rfl (x := .bool false) rfl ?_)
  show wpAny _ _ (field (.ref z) 3 >>= _) _ _ _
  refine wpAny_bind (wpAny_field hz rfl (x := .ref TI) rfl ?_)
  refine wpAny_bind (wpAny_seqItems hTI rfl ?_)
  show wpAny _ _ (Builtin.SmallTypes.ownedTupleIsFree (.ref z) >>= _) _ _ _
  refine wpAny_bind (wpAny_tupleHeld_zip hz hT fun h₁ hz₁ hs₁ => ?_)
  simp only [Bool.false_eq_true, if_false]
  refine wpAny_bind ?_
  rw [← Array.forIn_toList]
  simp only [List.forIn_cons, List.forIn_nil]
  refine wpAny_bind (wpAny_bind (wpAny_holding ?_))
  show wpAny _ _ (Builtin.SmallTypes.nextOf (.ref i1) >>= _) _ _ _
  cases hx : xs[k1]? with
  | none =>
    refine wpAny_bind (RZ.nextOf_tuple_end (s := { s with heap := h₁ }) hh (h1.extBut hs₁.extBut D.i1z) (hl1.extBut hs₁.extBut D.l1z) hx fun h₂ e hs₂ he => ?_)
    exact hE h₂ e (fun c o c1 c2 _ x => hs₂ _ _ c2 (hs₁.extBut _ _ c1 x)) he
  | some x =>
    have hy : ys[k2]? = none := by rcases hend with h | h; rw [hx] at h; cases h; exact h
    refine wpAny_bind (RZ.nextOf_tuple_item (s := { s with heap := h₁ }) (h1.extBut hs₁.extBut D.i1z) (hl1.extBut hs₁.extBut D.l1z) hx fun h₂ h1₂ hs₂ => wpAny_pure ?_)
    refine wpAny_pure ?_
    refine wpAny_bind (wpAny_bind (wpAny_holding ?_))
    show wpAny _ _ (Builtin.SmallTypes.nextOf (.ref i2) >>= _) _ _ _
    refine wpAny_bind (RZ.nextOf_tuple_end (s := { s with heap := h₂ }) hh ((h2.extBut hs₁.extBut D.i2z).extBut hs₂.extBut D.i12.symm) ((hl2.extBut hs₁.extBut D.l2z).extBut hs₂.extBut D.l2i1) hy fun h₃ e hs₃ he => ?_)
    exact hE h₃ e (fun c o c1 c2 c3 x => hs₃ _ _ c3 (hs₂.extBut _ _ c2 (hs₁.extBut _ _ c1 x))) he

theorem pyNext_zipTH_item {z TI TO T i1 i2 l1 l2 : Addr} {f : Bool} {oT : Obj} {k1 k2 : Nat} {xs ys : Array Value} {x y : Value} {Q : Option Value → Shared → Prop} (D : ZipApart z TI TO i1 i2 l1 l2)
    (hz : IsZipHeld s.heap z TI TO T f) (hT : s.heap.get? T = some oT) (hTI : IsPair s.heap TI (.ref i1) (.ref i2))
    (h1 : s.heap.IsTupleIter i1 l1 k1) (h2 : s.heap.IsTupleIter i2 l2 k2) (hl1 : s.heap.IsTuple l1 xs) (hl2 : s.heap.IsTuple l2 ys) (hx : xs[k1]? = some x) (hy : ys[k2]? = some y)
    (hQ : ∀ h', IsZipHeld h' z TI TO T true → h'.IsTupleIter i1 l1 (k1 + 1) → h'.IsTupleIter i2 l2 (k2 + 1) → IsPair h' s.heap.objs.size x y → h'.objs.size = s.heap.objs.size + 1 →
      (∀ c o, c ≠ z → c ≠ i1 → c ≠ i2 → s.heap.get? c = some o → h'.get? c = some o) → Q (some (.ref s.heap.objs.size)) { s with heap := h' }) :
    wpAny (model prog w) A (pyNext (.ref z)) Q E s := by
  have hTy : s.TypeIs (.ref z) "zip" := ⟨_, hz, rfl⟩
  unfold pyNext
  exact wpAny_bind (wpAny_attempt (wpAny_callSpecial?_slot (name := Str.ofString "__next__") hTy F.slot_zip_next
    (wpAny_call_entry F.slot_zip_next hTy F.entry_zip_next
      (zipTH_next_item D hz hT hTI h1 h2 hl1 hl2 hx hy fun h' a1 a3 a4 a5 a6 a7 => wpAny_pure (hQ h' a1 a3 a4 a5 a6 a7)) (F.args_zip_next_1 _))))
theorem pyNext_zipTH_end {z TI TO T i1 i2 l1 l2 : Addr} {f : Bool} {oT : Obj} {k1 k2 : Nat} {xs ys : Array Value} {Q : Option Value → Shared → Prop} (hh : A.handled = none) (D : ZipApart z TI TO i1 i2 l1 l2)
    (hz : IsZipHeld s.heap z TI TO T f) (hT : s.heap.get? T = some oT) (hTI : IsPair s.heap TI (.ref i1) (.ref i2))
    (h1 : s.heap.IsTupleIter i1 l1 k1) (h2 : s.heap.IsTupleIter i2 l2 k2) (hl1 : s.heap.IsTuple l1 xs) (hl2 : s.heap.IsTuple l2 ys) (hend : xs[k1]? = none ∨ ys[k2]? = none)
    (hQ : ∀ h', (∀ c o, c ≠ z → c ≠ i1 → c ≠ i2 → s.heap.get? c = some o → h'.get? c = some o) → Q none { s with heap := h' }) : wpAny (model prog w) A (pyNext (.ref z)) Q E s := by
  have hTy : s.TypeIs (.ref z) "zip" := ⟨_, hz, rfl⟩
  unfold pyNext
  refine wpAny_bind (wpAny_attempt (wpAny_callSpecial?_slot (name := Str.ofString "__next__") hTy F.slot_zip_next
    (wpAny_call_entry F.slot_zip_next hTy F.entry_zip_next (zipTH_next_end hh D hz hT hTI h1 h2 hl1 hl2 hend fun h' e hk he => ?_) (F.args_zip_next_1 _))))
  obtain ⟨o, ho, hc⟩ := he
  refine wpAny_bind (wpAny_isInstance (T := "StopIteration") (b := true) ⟨o, ho, hc⟩ isSubtype_stop ?_)
  exact wpAny_pure (hQ _ hk)
end
section
variable {prog : Program} {w : World}
theorem pairArg_zipT (z TI TO i1 i2 l1 l2 : Addr) (D : ZipApart z TI TO i1 i2 l1 l2) (xs ys : Array Value) :
    PairArg prog w "zip" z [z, TI, TO, i1, i2, l1, l2] [z, TO, i1, i2] (min xs.size ys.size) (fun i k v => xs[i]? = some k ∧ ys[i]? = some v)
      (fun h => IsZip h z TI TO .none ∧ IsPair h TI (.ref i1) (.ref i2) ∧ (∃ a b, IsPair h TO a b) ∧ h.IsTupleIter i1 l1 0 ∧ h.IsTupleIter i2 l2 0 ∧ h.IsTuple l1 xs ∧ h.IsTuple l2 ys) where
  type := fun s ok => ⟨_, ok.1, rfl⟩
  notDict := by decide
  keep := fun h h' ok hk => by
    obtain ⟨hz, hTI, ⟨a, b, hTO⟩, h1, h2, hl1, hl2⟩ := ok
    exact ⟨hk _ _ hz, hk _ _ hTI, ⟨a, b, hk _ _ hTO⟩, h1.at fun o e => hk _ o e, h2.at fun o e => hk _ o e, hl1.at fun o e => hk _ o e, hl2.at fun o e => hk _ o e⟩
  there := fun h ok b hb => by
    obtain ⟨hz, hTI, ⟨a, c, hTO⟩, ⟨o1, h1, _⟩, ⟨o2, h2, _⟩, ⟨o3, hl1, _⟩, ⟨o4, hl2, _⟩⟩ := ok
    simp only [List.mem_cons, List.not_mem_nil, or_false] at hb
    rcases hb with rfl | rfl | rfl | rfl | rfl | rfl | rfl
    all_goals first | exact ⟨_, hz⟩ | exact ⟨_, hTI⟩ | exact ⟨_, hTO⟩ | exact ⟨_, h1⟩ | exact ⟨_, h2⟩ | exact ⟨_, hl1⟩ | exact ⟨_, hl2⟩
  sub := fun b hb => by simp at hb ⊢; rcases hb with rfl | rfl | rfl | rfl <;> simp
  noKeys := fun A s Q E hA ok h => getAttrOr_miss_zip ok.1 rfl rfl rfl zip_no_keys (by decide +kernel) hA h
  iter := fun A s d Q E hA ok hd hdf h => by
    obtain ⟨hz, hTI, ⟨a, b, hTO⟩, h1, h2, hl1, hl2⟩ := ok
    simp only [List.mem_cons, List.not_mem_nil, or_false, not_or] at hdf
    obtain ⟨dz, dTI, dTO, di1, di2, dl1, dl2⟩ := hdf
    refine wpAny_pyIter_zip hz (h z [z, TO, i1, i2] (fun i h => IsPair h TI (.ref i1) (.ref i2) ∧ h.IsTupleIter i1 l1 i ∧ h.IsTupleIter i2 l2 i ∧ h.IsTuple l1 xs ∧ h.IsTuple l2 ys ∧
      ((IsZip h z TI TO .none ∧ ∃ a b, IsPair h TO a b) ∨ ∃ T f oT, IsZipHeld h z TI TO T f ∧ h.get? T = some oT ∧ T ≠ z ∧ T ≠ i1 ∧ T ≠ i2 ∧ T ≠ d)) s.heap s.toks ?_
      ⟨hTI, h1, h2, hl1, hl2, .inl ⟨hz, a, b, hTO⟩⟩ (fun _ _ e => e) fun b hb => .inl hb)
    exact {
      off := fun hm => by
        simp only [List.mem_cons, List.not_mem_nil, or_false] at hm
        rcases hm with e | e | e | e
        · exact dz e
        · exact dTO e
        · exact di1 e
        · exact di2 e
      frame := fun i h₁ h₂ st hk => by
        obtain ⟨hTI, h1, h2, hl1, hl2, hz⟩ := st
        refine ⟨hk _ _ (Ne.symm dTI) hTI, h1.at fun o e => hk _ o (Ne.symm di1) e, h2.at fun o e => hk _ o (Ne.symm di2) e, hl1.at fun o e => hk _ o (Ne.symm dl1) e, hl2.at fun o e => hk _ o (Ne.symm dl2) e, ?_⟩
        rcases hz with ⟨hz, a, b, hTO⟩ | ⟨T, f, oT, hz, hT, r1, r2, r3, r4⟩
        · exact .inl ⟨hk _ _ (Ne.symm dz) hz, a, b, hk _ _ (Ne.symm dTO) hTO⟩
        · exact .inr ⟨T, f, oT, hk _ _ (Ne.symm dz) hz, hk _ _ r4 hT, r1, r2, r3, r4⟩
      item := fun i s₁ Q₁ E₁ hi st hds hQ => by
        obtain ⟨hTI, h1, h2, hl1, hl2, hz⟩ := st
        have hix : i < xs.size := Nat.lt_of_lt_of_le hi (Nat.min_le_left ..)
        have hiy : i < ys.size := Nat.lt_of_lt_of_le hi (Nat.min_le_right ..)
        have ex := Array.getElem?_eq_getElem hix
        have ey := Array.getElem?_eq_getElem hiy
        have lt : ∀ {c o}, s₁.heap.get? c = some o → s₁.heap.objs.size ≠ c := fun e => Nat.ne_of_gt (Heap.lt_size e)
        have n1 : s₁.heap.objs.size ≠ i1 := let ⟨_, e, _⟩ := h1; lt e
        have n2 : s₁.heap.objs.size ≠ i2 := let ⟨_, e, _⟩ := h2; lt e
        rcases hz with ⟨hz, a, b, hTO⟩ | ⟨T, f, oT, hz, hT, r1, r2, r3, r4⟩
        · refine RZ.pyNext_zipT_item D hz hTI hTO h1 h2 hl1 hl2 ex ey fun h' a1 a2 a3 a4 a5 a6 hk => ?_
          exact hQ s₁.heap.objs.size _ _ h' s₁.toks ⟨ex, ey⟩ (.inl ⟨_, a5, rfl, _, rfl⟩)
            ⟨hk _ _ D.TIz D.TITO D.TIi1 D.TIi2 hTI, a3, a4, hl1.at fun o e => hk _ o D.l1z D.l1TO D.l1i1 D.l1i2 e, hl2.at fun o e => hk _ o D.l2z D.l2TO D.l2i1 D.l2i2 e,
              .inr ⟨s₁.heap.objs.size, false, _, a1, a5, lt hz, n1, n2, Nat.ne_of_gt hds⟩⟩
            fun c o hc e => hk c o (fun x => hc (by simp [x])) (fun x => hc (by simp [x])) (fun x => hc (by simp [x])) (fun x => hc (by simp [x])) e
        · refine pyNext_zipTH_item D hz hT hTI h1 h2 hl1 hl2 ex ey fun h' a1 a3 a4 a5 a6 hk => ?_
          exact hQ s₁.heap.objs.size _ _ h' s₁.toks ⟨ex, ey⟩ (.inl ⟨_, a5, rfl, _, rfl⟩)
            ⟨hk _ _ D.TIz D.TIi1 D.TIi2 hTI, a3, a4, hl1.at fun o e => hk _ o D.l1z D.l1i1 D.l1i2 e, hl2.at fun o e => hk _ o D.l2z D.l2i1 D.l2i2 e,
              .inr ⟨T, true, oT, a1, hk _ _ r1 r2 r3 hT, r1, r2, r3, r4⟩⟩
            fun c o hc e => hk c o (fun x => hc (by simp [x])) (fun x => hc (by simp [x])) (fun x => hc (by simp [x])) e
      done := fun s₁ Q₁ E₁ st hQ => by
        obtain ⟨hTI, h1, h2, hl1, hl2, hz⟩ := st
        have hend : xs[min xs.size ys.size]? = none ∨ ys[min xs.size ys.size]? = none := by
          rcases Nat.le_total xs.size ys.size with h | h
          · exact .inl (Array.getElem?_eq_none (by rw [Nat.min_eq_left h]; exact Nat.le_refl _))
          · exact .inr (Array.getElem?_eq_none (by rw [Nat.min_eq_right h]; exact Nat.le_refl _))
        rcases hz with ⟨hz, a, b, hTO⟩ | ⟨T, f, oT, hz, hT, r1, r2, r3, r4⟩
        · exact RZ.pyNext_zipT_end hA D hz hTI hTO h1 h2 hl1 hl2 hend fun h' hk => hQ h' s₁.toks fun c o hc e => hk c o (fun x => hc (by simp [x])) (fun x => hc (by simp [x])) (fun x => hc (by simp [x])) (fun x => hc (by simp [x])) e
        · exact pyNext_zipTH_end hA D hz hT hTI h1 h2 hl1 hl2 hend fun h' hk => hQ h' s₁.toks fun c o hc e => hk c o (fun x => hc (by simp [x])) (fun x => hc (by simp [x])) (fun x => hc (by simp [x])) e }

end
end Eb

/-! Own classes, built-ins on lists of truth values, dict(zip(..)), except clauses with names. -/
namespace Eb
open PySem PySem.Spec PyProof.Rows L2
/-! ### all of a list of truth values -/
section
variable {prog : Program} {w : World} {A : Around} {E : Value → Shared → Prop} {s : Shared} {Q : Value → Shared → Prop}
theorem all_raw {l : Addr} {its : List Value} {bs : List Bool} (hh : A.handled = none) (hl : s.heap.IsList l its.toArray) (hb : its = bs.map Value.bool)
    (h : ∀ h' tk, (∀ b o, s.heap.get? b = some o → h'.get? b = some o) → Q (.bool (bs.all id)) { s with heap := h', toks := tk }) : wpAny (model prog w) A (call (.builtin "all") [.ref l]) Q E s := by
  refine call_all_walk ?_
  have hlt : l < s.heap.objs.size := by
    obtain ⟨_, e, _⟩ := hl
    exact Heap.lt_size e
  refine wpAny_pyIter_list hl ?_
  refine ⟨_, _, _, _, _, _, fun i => bs.getD i false, rfl, Walks.list (A := A.in1) hh _ l (Nat.ne_of_lt hlt) its.toArray, ⟨⟨_, Heap.get?_push_size _ rfl, rfl, rfl⟩, hl.push _⟩, ?_, fun h' tk hk => ?_⟩
  · intro i v s' Q' E' hv hq
    have hv : its.toArray[i]? = some v := hv
    subst hb
    have hv2 : (bs.map Value.bool)[i]? = some v := by simpa using hv
    rw [List.getElem?_map] at hv2
    obtain ⟨b, hb, rfl⟩ := Option.map_eq_some_iff.mp hv2
    have e : bs.getD i false = b := by rw [List.getD_eq_getElem?_getD, hb]; rfl
    have hq : Q' (bs.getD i false) s' := hq
    rw [e] at hq
    exact wpAny_of_eq (a := b) (by rfl) hq
  · have e : (List.range its.toArray.size).all (fun i => bs.getD i false) = bs.all id := by
      subst hb
      have e1 : (bs.map Value.bool).toArray.size = bs.length := by simp
      rw [e1, Bool.eq_iff_iff, List.all_eq_true, List.all_eq_true]
      constructor
      · intro q b hbm
        obtain ⟨i, hi, rfl⟩ := List.mem_iff_getElem.mp hbm
        have := q i (List.mem_range.mpr hi)
        rw [List.getD_eq_getElem?_getD, List.getElem?_eq_getElem hi] at this
        exact this
      · intro q i hi
        have hi := List.mem_range.mp hi
        rw [List.getD_eq_getElem?_getD, List.getElem?_eq_getElem hi]
        exact q _ (List.getElem_mem hi)
    rw [e]
    exact h h' tk (old_kept hk)
end
theorem bools_of : ∀ {bs : List Bool} {us : List Value}, Vals (bs.map V.bl) us → us = bs.map Value.bool
  | [], _, r => by cases r; rfl
  | b :: bs, _, r => by
    cases r with
    | cons a t => rw [bools_of t, show _ = Value.bool b from a]; rfl
theorem cr_all {X : Cx} (hc : X.calm = true := by rfl) : CallR X (.builtin "all") (zAll X.K) := by
  intro pins s σ H vs us Q I r h
  unfold zAll at h
  split at h
  · obtain ⟨bs, hs, q⟩ := h
    obtain ⟨its, rv, hl, _⟩ := I.list hs
    rw [Vals.ref1 r]
    exact all_raw (I.ok.hd hc) hl.isList (bools_of rv) fun h' tk hk => ⟨.bl _, H, I.kept hk, rfl, q⟩
  · exact h.elim
/-! ### dict(zip(t, u)), t a tuple of texts -/
def zipK (ks : List Str) (ys : List V) : List (Key × V) := (ks.map Sum.inr).zip ys
theorem zipK_kv : ∀ {ks : List Str} {ys : List V} {us : List Value}, Vals ys us → KV (zipK ks ys) ((ks.map Sum.inr).zip us)
  | [], _, _, _ => .nil
  | _ :: _, _, _, .nil => .nil
  | k :: ks, _, _, .cons a t => .cons ⟨rfl, a⟩ (zipK_kv t)
def yDictZip (K : PySem.W.Frag) (ta tb : TE) : TE := fun σ H Q => ta σ H fun x H1 => tb σ H1 fun y H2 => match x, y with
  | .ref a, .ref b => ∃ (ks : List Str) (ys : List V), SqT K H2 a (ks.map V.str) ∧ SqT K H2 b ys ∧ ks.length ≤ 1000 ∧ ∀ d, H2 d = none → Q (.ref d) (upd H2 d (.dK (mergeK [] (zipK ks ys))))
  | _, _ => False
theorem ye_dictZip {X : Cx} {a b : Expr} {ta tb : TE} {p p2 pos pos2 : Pos} (hgd : Gl X "dict") (hmd : X.mg "dict" = none) (hgz : Gl X "zip") (hmz : X.mg "zip" = none) (ha : PE X a ta) (hb : PE X b tb) (hc : X.calm = true := by rfl)
    (hs1 : starEach [.Call (.Name "zip" p2) [a, b] [] pos2] X.env = (false, eval (.Call (.Name "zip" p2) [a, b] [] pos2) X.env) :: starEach [] X.env := by rfl)
    (hp1 : (backTo pos (starEach [] X.env)).any (·.1) = false := by rfl) (hs : starEach [a, b] X.env = (false, eval a X.env) :: starEach [b] X.env := by rfl) (hs2 : starEach [b] X.env = (false, eval b X.env) :: starEach [] X.env := by rfl) (hpl : (backTo pos2 (starEach [b] X.env)).any (·.1) = false := by rfl) :
    PE X (.Call (.Name "dict" p) [.Call (.Name "zip" p2) [a, b] [] pos2] [] pos) (yDictZip X.K ta tb) := by
  refine ⟨fun pins s σ H Q I h => ?_⟩
  refine wpAny_Call_Name_kw (ld_blt I hgd hmd PyProof.Rows.boot_dict ?_ (by decide) (by decide))
  refine PyProof.Rows.callWith_type1 ?_ hs1 hp1
  rw [hs1]
  show wpAny _ _ (spliced ((false, eval (.Call (.Name "zip" p2) [a, b] [] pos2) X.env) :: backTo pos (starEach [] X.env))) _ _ s
  refine Calls.spliced_cons ?_
  refine wpAny_Call_Name_kw (ld_blt I hgz hmz PyProof.Rows.boot_zip ?_ (by decide) (by decide))
  refine PyProof.Rows.callWith_type1 (thn ((pa_cons (PE.up ha) (pa_cons (PE.up hb) pa_nil hs2) hs).run pos2 pins s σ H (fun vs H2 => ∃ x y, vs = [x, y] ∧ (match x, y with
    | .ref a, .ref b => ∃ (ks : List Str) (ys : List V), SqT X.K H2 a (ks.map V.str) ∧ SqT X.K H2 b ys ∧ ks.length ≤ 1000 ∧ ∀ d, H2 d = none → Q (.ref d) (upd H2 d (.dK (mergeK [] (zipK ks ys))))
    | _, _ => False)) I ⟨_, h, fun x H1 q1 => ⟨_, q1, fun y H2 q2 => ⟨x, y, rfl, q2⟩⟩⟩) fun us s1 hh => ?_) hs hpl
  obtain ⟨vs, H1, I1, r1, x, y, rfl, q⟩ := hh
  cases x <;> cases y <;> first | exact False.elim q | skip
  rename_i l1 l2
  obtain ⟨ks, ys, h1, h2, hl, q⟩ := q
  obtain ⟨u1, u2, rfl, e1, e2⟩ := vals2 r1
  obtain rfl : u1 = Value.ref l1 := e1
  obtain rfl : u2 = Value.ref l2 := e2
  obtain ⟨its, rv, p1, _⟩ := I1.tuple h1
  obtain ⟨its2, rv2, p2, _⟩ := I1.tuple h2
  have lt1 : l1 < s1.heap.objs.size := by
    obtain ⟨_, e, _⟩ := p1
    exact Heap.lt_size e
  have lt2 : l2 < s1.heap.objs.size := by
    obtain ⟨_, e, _⟩ := p2
    exact Heap.lt_size e
  refine RZ.call_zipT p1 p2 fun h' hz hTI hTO hi1 hi2 hsz hk => ?_
  have I2 : Inv X pins σ H1 { s1 with heap := h' } := I1.kept (t' := s1.toks) hk
  refine Calls.spliced_nil ?_
  show wpAny _ _ (call (.type "dict") [.ref (s1.heap.objs.size + 4)]) _ _ _
  have D : ZipApart (s1.heap.objs.size + 4) (s1.heap.objs.size + 2) (s1.heap.objs.size + 3) s1.heap.objs.size (s1.heap.objs.size + 1) l1 l2 := by
    have lt1 : @LT.lt Nat _ l1 s1.heap.objs.size := lt1
    have lt2 : @LT.lt Nat _ l2 s1.heap.objs.size := lt2
    constructor <;> exact fun z => absurd (show @Eq Nat _ _ from z) (by omega)
  have hlen : its.length = ks.length := by rw [← rv.length, List.length_map]
  refine PySem.call_dict_pairs (knd := mixKind X.prog X.w) (kvs := (ks.map Sum.inr).zip its2) (pairArg_zipT (prog := X.prog) (w := X.w) (s1.heap.objs.size + 4) (s1.heap.objs.size + 2) (s1.heap.objs.size + 3) s1.heap.objs.size (s1.heap.objs.size + 1) l1 l2 D its.toArray its2.toArray) (I.ok.hd hc)
    ⟨hz, hTI, ⟨_, _, hTO⟩, hi1, hi2, (show s1.heap.IsTuple l1 its.toArray from p1).at fun o e => hk _ o e, (show s1.heap.IsTuple l2 its2.toArray from p2).at fun o e => hk _ o e⟩ ⟨?_, fun i key v ⟨k1, k2⟩ => ?_⟩ ?_ fun h2' tk hd hk2 => ?_
  · rw [List.length_zip, List.length_map, List.size_toArray, List.size_toArray, hlen]
  · have k1' : its[i]? = some key := by simpa using k1
    have k2' : its2[i]? = some v := by simpa using k2
    have hi : i < ks.length := by
      rw [← hlen]
      exact (List.getElem?_eq_some_iff.mp k1').1
    obtain ⟨u, hu, ru⟩ := rv.get (i := i) (x := V.str ks[i]) (by rw [List.getElem?_map, List.getElem?_eq_getElem hi]; rfl)
    have eu : u = key := Option.some.inj (hu.symm.trans k1')
    subst eu
    refine ⟨Sum.inr ks[i], ?_, kV_is (k := Sum.inr ks[i]) ru⟩
    rw [List.getElem?_zip_eq_some]
    exact ⟨by rw [List.getElem?_map, List.getElem?_eq_getElem hi]; rfl, k2'⟩
  · rw [List.size_toArray, hlen, sizeLine_eq]
    omega
  · have hml : (mergeK [] (zipK ks ys)).length ≤ sizeLine := by
      have e1 := length_mergeK (zipK ks ys) []
      have e2 : (zipK ks ys).length ≤ ks.length := by
        unfold zipK
        rw [List.length_zip, List.length_map]
        exact Nat.min_le_left ..
      rw [List.length_nil] at e1
      rw [sizeLine_eq]
      omega
    have hst : ∀ b o, s1.heap.get? b = some o → h2'.get? b = some o := fun b o e => hk2 b o (fun hm => by
      have hb : @LT.lt Nat _ b s1.heap.objs.size := Heap.lt_size e
      simp only [List.mem_cons, List.not_mem_nil, or_false] at hm
      rcases hm with e | e | e | e <;> exact absurd (show @Eq Nat _ _ from e) (by omega)) (hk b o e)
    have hnd : s1.heap.objs.size ≤ h'.objs.size := by omega
    have hsys : (h'.objs.size == sysModules) = false := by
      have q : @LT.lt Nat _ sysModules s1.heap.objs.size := I1.big
      simp only [beq_eq_false_iff_ne, ne_eq]
      intro z
      have z : @Eq Nat _ _ := z
      omega
    exact ⟨.ref h'.objs.size, _, I1.laid (t' := tk) (a := h'.objs.size) (o := .dK (mergeK [] (zipK ks ys))) (h' := h2') hst hnd ⟨hml, hsys, _, KV.merge (zipK_kv rv2) .nil, hd⟩, rfl, q _ (I1.hok.fresh hnd)⟩
end Eb

/-! Own classes: makes, methods; raising; except clauses with names. -/
namespace Eb
open PySem PySem.Spec PyProof.Rows L2
/-! ### own classes -/
/-- the class x, made -/
structure OM (P : Program) (w : World) (K : PySem.W.Frag) (mg : Str → Option Value) (base : Heap) (x : Str) (k : Nat) (ps : List Str) (sp : Sp) : Prop where
  c : Cls K (He.ga K x)
  ex : ∃ f fd, L2.Mk K (He.ga K x) f ∧ FnOk P w K mg base (L2.CX P w) k f fd ps sp ∧ mg x = some (.ref (He.ga K x)) ∧ Binds K fd ps []
/-- the method m of the class x -/
structure OMe (P : Program) (w : World) (K : PySem.W.Frag) (mg : Str → Option Value) (base : Heap) (x m : Str) (k : Nat) (ps : List Str) (sp : Sp) : Prop where
  c : Cls K (He.ga K x)
  ex : ∃ f fd, Meth K (He.ga K x) m f ∧ FnOk P w K mg base (L2.CX P w) k f fd ps sp ∧ Binds K fd ps []
abbrev W0 : WX := fun _ _ _ _ => False
theorem tk0 {X : Cx} : Takes X W0 := takes_none5
def yNew (C : Addr) (sp : Sp) (W : WX) (t : TA) : TE := fun σ H Q => t σ H fun vs H1 => ∀ x dx, H1 x = none → H1 dx = none → dx ≠ x → sp (.ref x :: vs) (upd (upd H1 dx (.own x)) x (.ins C dx [])) (fun v H2 => v = .non ∧ Q (.ref x) H2) fun cls d H' => W cls d σ H'
def yMeth (C : Addr) (m : Str) (sp : Sp) (W : WX) (ta : TE) (t : TA) : TE := fun σ H Q => ta σ H fun x H1 => match x with
  | .ref a => ∃ dx fs, H1 a = some (.ins C dx fs) ∧ fs.lookup m = none ∧ t σ H1 fun vs H2 => sp (.ref a :: vs) H2 Q fun cls d H' => W cls d σ H'
  | _ => False
section
variable {X : Cx} {x m : Str} {k : Nat} {ps : List Str} {sp : Sp} {W : WX} {t : TA} {ta : TE} {e o : Expr} {es : List Expr} {p pos apos : Pos}
theorem new_run {C : Addr} {f : Addr} {fd : FuncData} {E : XK} {pins : List (Addr × Obj)} {σ : L2.St} {H : Hp} {s : Shared} {Q : VK} {us : List Value} {vs : List V} (M : L2.Mk X.K C f) (F : FnOk X.prog X.w X.K X.mg X.base (L2.CX X.prog X.w) k f fd ps sp) (hr : Room (k + 1) X.A) (hb : Binds X.K fd ps [])
    (hx : PassesAt (L2.CX X.prog X.w) X σ E) (I : Inv X pins σ H s) (r : Vals vs us)
    (h : ∀ x dx, H x = none → H dx = none → dx ≠ x → sp (.ref x :: vs) (upd (upd H dx (.own x)) x (.ins C dx [])) (fun v H2 => v = .non ∧ Q (.ref x) H2) E) :
    wpAny (model X.prog X.w) X.A (call (.ref C) us) (EP X pins σ Q) X.xe s := by
  have hq := h (s.heap.objs.size + 1) s.heap.objs.size (I.hok.fresh (Nat.le_succ _)) (I.hok.fresh (Nat.le_refl _)) (Nat.ne_of_lt (Nat.lt_succ_self _))
  have I2 := Inv.made (C := C) I
  have r2 : Vals (V.ref (s.heap.objs.size + 1) :: vs) (Value.ref (s.heap.objs.size + 1) :: us) := .cons rfl r
  have hl : (Value.ref (s.heap.objs.size + 1) :: us).length = ps.length := by
    have e := r2.length
    rw [F.len _ _ _ _ hq] at e
    exact e.symm
  have hb' := hb _ (Value.ref (s.heap.objs.size + 1) :: us) I2.kIn (by rw [List.append_nil]; exact hl)
  rw [List.append_nil] at hb'
  refine wpAny_call (make_map (f := f) I.kIn M.makes M.init (beq_iff_eq.mp M.fn) (codeAny_mono (F.run _ X.stack _ _ ⟨Value.ref (s.heap.objs.size + 1) :: us, []⟩ (Value.ref (s.heap.objs.size + 1) :: us) _ _ E (hr.make C us [])
    (I2.env0.make C us []) hb' r2 hq) fun r s' hq' => ?_))
  cases r with
  | error e => exact hx pins _ _ e s' I2 hq'
  | ok fl =>
    cases fl with
    | ret u =>
      obtain ⟨v, H', I3, rv, ev, q3⟩ := I2.after hq'
      subst ev
      exact ⟨rv, ⟨V.ref (s.heap.objs.size + 1), H', I3, rfl, q3⟩⟩
    | next => exact False.elim hq'
    | brk => exact False.elim hq'
    | cont => exact False.elim hq'
theorem ye_new (M : OM X.prog X.w X.K X.mg X.base x k ps sp) (tk : Takes X W) (hr : Room (k + 1) X.A) (hg : Gl X x) (ha : PA X (e :: es) t) (hdb : (x == ("__debug__" : Str)) = false := by decide)
    (he : starEach (e :: es) X.env = (false, eval e X.env) :: starEach es X.env := by rfl) (hpl : (backTo pos (starEach es X.env)).any (·.1) = false := by rfl) : PE X (.Call (.Name x p) (e :: es) [] pos) (yNew (He.ga X.K x) sp W t) := by
  obtain ⟨f, fd, h1, h2, h3, h4⟩ := M.ex
  refine ⟨fun pins s σ H Q I h => ?_⟩
  refine wpAny_Call_Name_kw (ld_glob I hg h3 ?_ hdb)
  refine PySem.W.callWith_K (h₀ := X.base) I.ok.mod.kin h1.kp (thn (ha.run pos pins s σ H _ I h) fun us s1 ⟨vs, H1, I1, r, q⟩ => ⟨I1.kIn, ?_⟩) he hpl
  exact new_run h1 h2 hr h4 (passAt tk σ) I1 r q
theorem ye_new0 (M : OM X.prog X.w X.K X.mg X.base x k ps sp) (tk : Takes X W) (hr : Room (k + 1) X.A) (hg : Gl X x) (hdb : (x == ("__debug__" : Str)) = false := by decide) : PE X (.Call (.Name x p) [] [] pos) (yNew (He.ga X.K x) sp W tNil) := by
  obtain ⟨f, fd, h1, h2, h3, h4⟩ := M.ex
  refine ⟨fun pins s σ H Q I h => ?_⟩
  refine wpAny_Call_Name_kw (ld_glob I hg h3 ?_ hdb)
  exact PySem.W.callWith_K0 I.kIn h1.kp (new_run (us := []) h1 h2 hr h4 (passAt tk σ) I .nil h)
theorem ye_meth {pl : Sem Bool} (M : OMe X.prog X.w X.K X.mg X.base x m k ps sp) (tk : Takes X W) (hr : Room k X.A) (ho : PE X o ta) (ha : PA X (e :: es) t)
    (hst : starEach (e :: es) X.env = (false, eval e X.env) :: starEach es X.env := by rfl) (hpl : (backTo pos (starEach es X.env)).any (·.1) = false := by rfl)
    (ht : eval (.Call (.Attribute o m apos) (e :: es) [] pos) X.env = (do
      let ov ← eval o X.env
      standAt apos.atName
      let (f, first) ← holding [ov] (getMethod ov m pl)
      callWith pos f first (backTo pos (starEach (e :: es) X.env)) (backToKw pos (keywordEach [] X.env))) := by rfl) : PE X (.Call (.Attribute o m apos) (e :: es) [] pos) (yMeth (He.ga X.K x) m sp W ta t) := by
  obtain ⟨f, fd, h1, h2, h3⟩ := M.ex
  refine ⟨fun pins s σ H Q I h => ?_⟩
  refine PySem.W.methodCall_KW (pl := pl) (thn (ho.run pins s σ H _ I h) fun u s1 ⟨y, H1, I1, rx, q⟩ => ?_) ht
  cases y <;> first | exact False.elim q | skip
  obtain ⟨dx, fs, ea, l, q⟩ := q
  rename_i a
  obtain rfl : u = Value.ref a := rx
  refine getmeth_ok I1 ea M.c h1 l ?_
  refine PySem.W.callWith_K (first := [.ref a]) (h₀ := X.base) I.ok.mod.kin h1.kp (thn (ha.run pos pins s1 σ H1 _ I1 q) fun us s2 ⟨vs, H2, I2, r, q2⟩ => ⟨I2.kIn, ?_⟩) hst hpl
  exact run_fnS (us := .ref a :: us) (vs := .ref a :: vs) (E := fun σ cls d H' => W cls d σ H') h2 hr h3 (passAt tk σ) I2 (.cons rfl r) q2
theorem ye_meth0 {pl : Sem Bool} (M : OMe X.prog X.w X.K X.mg X.base x m k ps sp) (tk : Takes X W) (hr : Room k X.A) (ho : PE X o ta)
    (ht : eval (.Call (.Attribute o m apos) [] [] pos) X.env = (do
      let ov ← eval o X.env
      standAt apos.atName
      let (f, first) ← holding [ov] (getMethod ov m pl)
      callWith pos f first (backTo pos (starEach [] X.env)) (backToKw pos (keywordEach [] X.env))) := by rfl) : PE X (.Call (.Attribute o m apos) [] [] pos) (yMeth (He.ga X.K x) m sp W ta tNil) := by
  obtain ⟨f, fd, h1, h2, h3⟩ := M.ex
  refine ⟨fun pins s σ H Q I h => ?_⟩
  refine PySem.W.methodCall_KW (pl := pl) (thn (ho.run pins s σ H _ I h) fun u s1 ⟨y, H1, I1, rx, q⟩ => ?_) ht
  cases y <;> first | exact False.elim q | skip
  obtain ⟨dx, fs, ea, l, q⟩ := q
  rename_i a
  obtain rfl : u = Value.ref a := rx
  refine getmeth_ok I1 ea M.c h1 l ?_
  exact PySem.W.callWith_K0 (first := [.ref a]) I1.kIn h1.kp (run_fnS (us := [.ref a]) (vs := [.ref a]) (E := fun σ cls d H' => W cls d σ H') h2 hr h3 (passAt tk σ) I1 (.cons rfl .nil) q)
end
/-! ### isinstance of a text or an own instance -/
def zIsi (K : PySem.W.Frag) : List V → Hp → VK → Prop := fun xs H Q => match xs with
  | [.str _, .ref c] => ∃ b, PySem.W.kitOne K (.type "str") (.ref c) = some b ∧ Q (.bl b) H
  | [.ref a, .ref c] => ∃ C dx fs b, H a = some (.ins C dx fs) ∧ Cls K C ∧ PySem.W.kitOne K (.ref C) (.ref c) = some b ∧ Q (.bl b) H
  | _ => False
/-! ### raising -/
def yRaise (t : L2.St → Hp → XK → Prop) (W : WX) : TS := fun _ σ H => t σ H fun cls d H' => W cls d σ H'
theorem ys_raise {X : Cx} {W : WX} {e : Expr} {t : L2.St → Hp → XK → Prop} {pos : Pos} (hc : X.calm = true) (tk : Takes X W) (he : PMk X e t) : PS X (.Raise (some e) none pos) (yRaise t W) := ps_raise hc tk he
end Eb

/-! except clauses with names, several of them; what is read of the caught error. -/
namespace Eb
open PySem PySem.Spec PyProof.Rows L2
/-- a clause's suite, the error under the i-th name -/
def asTs (i : Nat) (ts : Addr → Value → Option Addr → TS) : Addr → Value → Option Addr → TS := fun a cls d D σ H =>
  ts a cls d { nx := fun σ' H' => D.nx (σ'.set i none) H', rt := D.rt, bk := fun σ' H' => D.bk (σ'.set i none) H', ct := fun σ' H' => D.ct (σ'.set i none) H' } (σ.set i (some (.ref a))) H
inductive HdsN (X : Cx) : List ExceptHandler → List (Value × (Addr → Value → Option Addr → TS)) → Prop
  | nil : HdsN X [] []
  | plain {x : Str} {c : Value} {ts : Addr → Value → Option Addr → TS} {b₀ : Stmt} {suite : List Stmt} {np pos' : Pos} {hds : List ExceptHandler} {l : List (Value × (Addr → Value → Option Addr → TS))} (hc : Names X x c)
      (hsu : ∀ (a : Addr) (oe : Obj) (cls : Value) (d : Option Addr) (pn : List (Addr × Obj)), Zc cls d oe → (∃ vs, oe.data = .fields vs) → PSs (X.suite a ((a, oe) :: pn)) (b₀ :: suite) (ts a cls d)) (r : HdsN X hds l) :
      HdsN X (.ExceptHandler (some (.Name x np)) none (b₀ :: suite) pos' :: hds) ((c, ts) :: l)
  | named {x n : Str} {c : Value} {i : Nat} {ts : Addr → Value → Option Addr → TS} {b₀ : Stmt} {suite : List Stmt} {np pos' : Pos} {hds : List ExceptHandler} {l : List (Value × (Addr → Value → Option Addr → TS))} (hi : X.N[i]? = some n) (hln : X.env.kindOf n = some .local) (hc : Names X x c)
      (hsu : ∀ (a : Addr) (oe : Obj) (cls : Value) (d : Option Addr) (pn : List (Addr × Obj)), Zc cls d oe → (∃ vs, oe.data = .fields vs) → PSs (X.suite a ((a, oe) :: pn)) (b₀ :: suite) (ts a cls d)) (r : HdsN X hds l) :
      HdsN X (.ExceptHandler (some (.Name x np)) (some n) (b₀ :: suite) pos' :: hds) ((c, asTs i ts) :: l)
section
variable {X : Cx} {body : List Stmt} {h₀ : ExceptHandler} {hds : List ExceptHandler} {l : List (Value × (Addr → Value → Option Addr → TS))} {pos : Pos} {tb : WX → TS} {Wout : WX}
def yTry (K : PySem.W.Frag) (tb : WX → TS) (Wout : WX) (l : List (Value × (Addr → Value → Option Addr → TS))) : TS := fun D σ H => tb (wMany K Wout D l) D σ H
theorem ys_try (hs : X.stack = X.env :: X.outer) (hf : X.env.frame = some X.env.locals) (hN : X.N.Nodup) (tk : Takes X Wout)
    (hb : ∀ (W : WX) (pn : List (Addr × Obj)) (xe : Value → Shared → Prop), Takes (X.tr pn xe) W → PassesOwn (model X.prog X.w) X.A X.env xe → PSs (X.tr pn xe) body (tb W))
    (hh : HdsN X (h₀ :: hds) l) : PS X (.Try body (h₀ :: hds) [] [] pos) (yTry X.K tb Wout l) := by
  refine ⟨fun pins s σ H D I h => ?_⟩
  have ok := I.ok
  have hfr : X.A.frames = some (X.env :: X.outer) := by rw [ok.frames, hs]
  refine wpAny_Try_except ?_
  refine wpAny_mono ((hb (wMany X.K Wout D l) (X.pn ++ pins) (fun e s₁ => wpAny (model X.prog X.w) X.A (noteFrame e X.env) (fun _ s₂ => wpAny (model X.prog X.w) X.A (setFlight e none) (fun _ s₃ =>
    wpAny (model X.prog X.w) X.A (handleBy e X.env (h₀ :: hds)) (SP X pins D) X.xe s₃) X.xe s₂) X.xe s₁) (fun u s' xx => ?_) PassesOwn.looking).run [] s σ H D (I.toTry _) h) (fun f s1 hsp => ?_) (fun e s1 he => he)
  · obtain ⟨a, B, sI, pins', σ', H', cls, d, rfl, J', nb, up, sky, na, os, ag, w⟩ := xx
    have J : Inv X pins σ' H' sI := J'.ofTry ok
    have sky' : Sky B (X.env :: X.outer) a (Zc cls d) X.env.locals s'.heap := by rw [← hs]; exact sky
    show wpAny (model X.prog X.w) X.A (noteFrame (.ref a) X.env) _ _ _
    refine Sky.land Zc.steady hfr hf sky' fun h3 fl3 up3 => ?_
    have J3 : Inv X pins σ' H' { s' with heap := h3 } := J.landed nb fl3.1 (up.trans up3) os ag
    obtain ⟨oe3, vs3, he3, hz3, hd3⟩ := fl3.there
    have notFr : ∀ {h : Heap} {o : Obj} {vs : Array Value}, h.FunFrames B (X.env :: X.outer) → h.get? a = some o → o.data = .fields vs → a ∉ frs (X.env :: X.outer) := fun {h o vs} ff e dd hm => by
      obtain ⟨_, o', e', hnf⟩ := ff.mem hm
      rw [e] at e'
      cases e'
      exact hnf _ dd
    have nfr := notFr fl3.2.2.1 he3 hd3
    have nL : a ≠ X.env.locals := fun z => nfr (List.mem_filterMap.mpr ⟨X.env, List.mem_cons_self, by rw [hf, z]⟩)
    have nF : a ∉ X.fs := fun hm => by
      obtain ⟨e, he, q⟩ := List.mem_filterMap.mp hm
      exact nfr (List.mem_filterMap.mpr ⟨e, List.mem_cons_of_mem _ he, q⟩)
    have S3 := J3.suite he3 hd3 na nL nF
    have LT : PySem.W.Looks (model X.prog X.w) h3 (typeOf (.ref a)) cls := fun A Q E s k q => wpAny_typeOf_ref (k _ _ he3) (by rw [hz3.1]; exact q)
    have test : ∀ {x : Str} {c : Value} {np : Pos} {Q : Value → Shared → Prop} {E : Value → Shared → Prop}, Names X x c → Q c { s' with heap := h3 } → wpAny (model X.prog X.w) (X.A.mark (some (.ref a))) (eval (.Name x np) X.env) Q E { s' with heap := h3 } := fun {x c np Q E} hc q => by
      obtain ⟨hg, hdbg, hm | ⟨hm, hv, hnn⟩⟩ := hc
      · exact ld_glob (X := X.suite a ((a, oe3) :: (X.pn ++ pins))) S3 hg hm q hdbg
      · exact ld_blt (X := X.suite a ((a, oe3) :: (X.pn ++ pins))) S3 hg hm hv q hnn hdbg
    have go : ∀ {hds' : List ExceptHandler} {l' : List (Value × (Addr → Value → Option Addr → TS))}, HdsN X hds' l' → wMany X.K Wout D l' cls d σ' H' →
        wpAny (model X.prog X.w) X.A (handleBy (.ref a) X.env hds') (SP X pins D) X.xe { s' with heap := h3 } := by
      intro hds' l' hk
      induction hk with
      | nil =>
        intro w
        refine wpAny_handleBy_nil ?_
        obtain ⟨k1, k2, k3, oe, vs, T, oT, ts', he, hz, hd, h1, hr⟩ := id fl3
        unfold PySem.passOn
        refine wpAny_bind (wpAny_field he hd h1 ?_)
        rw [if_neg (show ¬ ((Value.ref T == Value.none) = true) from by simp)]
        have fin : wpAny (model X.prog X.w) X.A (setFlight (.ref a) X.env.frame) (fun _ s4 => wpAny (model X.prog X.w) X.A (throw (.ref a) : Sem Flow) (SP X pins D) X.xe s4) X.xe { s' with heap := h3 } := by
          rw [hf]
          refine HandSPX.setFlight_upZ fl3 fun h4 hh4 up4 => wpAny_throw (tk _ _ ?_)
          exact ⟨a, B, sI, pins, σ', H', cls, d, rfl, J, nb, (up.trans up3).trans up4, .inr (.inr (by rw [hs]; exact hh4)), na, os, ag, w⟩
        first
          | exact wpAny_bind (wpAny_pure (wpAny_bind fin))
          | exact wpAny_bind fin
      | @plain x c ts b₀ suite np pos' hds2 l2 hc hsu r ih =>
        intro w
        obtain ⟨b, hb1, hyes, hno⟩ := w
        refine wpAny_handleBy_cons (codeAny_handlers_test ?_) (by intro q; cases q)
        have LM := PySem.W.exm_one (M := model X.prog X.w) (J3.kIn) LT hb1
        refine test hc (LM.here ?_)
        cases b with
        | true =>
          refine codeAny_handlers_suite ?_
          refine HandSPX.lands_againZ fl3 fun h4 fl4 up4 => ?_
          have J4 : Inv X pins σ' H' { s' with heap := h4 } := J.landed nb fl4.1 ((up.trans up3).trans up4) os ag
          obtain ⟨oe4, vs4, he4, hz4, hd4⟩ := fl4.there
          have S4 := J4.suite he4 hd4 na nL nF
          refine wpAny_mono ((hsu a oe4 cls d (X.pn ++ pins) hz4 ⟨_, hd4⟩).run [] _ _ H' _ S4 (hyes rfl a na)) (fun f s6 hsp => ?_) (fun _ _ z => False.elim z)
          cases f with
          | next =>
            obtain ⟨σ6, H6, S6, q6⟩ := hsp
            exact ⟨_, _, S6.unsuite ok, q6⟩
          | brk =>
            obtain ⟨σ6, H6, S6, q6⟩ := hsp
            exact ⟨_, _, S6.unsuite ok, q6⟩
          | cont =>
            obtain ⟨σ6, H6, S6, q6⟩ := hsp
            exact ⟨_, _, S6.unsuite ok, q6⟩
          | ret u =>
            obtain ⟨v6, σ6, H6, S6, r6, q6⟩ := hsp
            exact ⟨_, _, _, S6.unsuite ok, r6, q6⟩
        | false =>
          show wpAny _ X.A (handleBy (.ref a) X.env hds2) _ _ _
          exact ih (hno rfl)
      | @named x n c i ts b₀ suite np pos' hds2 l2 hi hln hc hsu r ih =>
        intro w
        obtain ⟨b, hb1, hyes, hno⟩ := w
        refine wpAny_handleBy_cons (codeAny_handlers_test ?_) (by intro q; cases q)
        have LM := PySem.W.exm_one (M := model X.prog X.w) (J3.kIn) LT hb1
        refine test hc (LM.here ?_)
        cases b with
        | true =>
          refine codeAny_handlers_suite_as ?_
          refine HandSPX.lands_againZ fl3 fun h4 fl4 up4 => ?_
          have J4 : Inv X pins σ' H' { s' with heap := h4 } := J.landed nb fl4.1 ((up.trans up3).trans up4) os ag
          obtain ⟨oe4, vs4, he4, hz4, hd4⟩ := fl4.there
          have S4 := J4.suite he4 hd4 na nL nF
          refine store_ok (X := X.suite a ((a, oe4) :: (X.pn ++ pins))) (v := .ref a) S4 hN hi (.inl hln) rfl (fun s5 S5 => ?_) (.inr hln)
          refine wpAny_mono ((hsu a oe4 cls d (X.pn ++ pins) hz4 ⟨_, hd4⟩).run [] s5 _ H' _ S5 (hyes rfl a na)) (fun f s6 hsp => ?_) (fun _ _ z => False.elim z)
          have end_ : ∀ {σ6 : L2.St} {H6 : Hp} {Q : Shared → Prop}, Inv (X.suite a ((a, oe4) :: (X.pn ++ pins))) [] σ6 H6 s6 → (∀ s7, Inv X pins (σ6.set i none) H6 s7 → Q s7) →
              wpAny (model X.prog X.w) X.A (do bindName X.env n .none; unbindBehindTheSuite X.env n pos') (fun _ s7 => Q s7) X.xe s6 := fun {σ6 H6 Q} S6 hq => gone_ok (S6.unsuite ok) hN hi hln hq
          cases f with
          | next =>
            obtain ⟨σ6, H6, S6, q6⟩ := hsp
            exact end_ S6 fun s7 J7 => ⟨_, _, J7, q6⟩
          | brk =>
            obtain ⟨σ6, H6, S6, q6⟩ := hsp
            exact end_ S6 fun s7 J7 => ⟨_, _, J7, q6⟩
          | cont =>
            obtain ⟨σ6, H6, S6, q6⟩ := hsp
            exact end_ S6 fun s7 J7 => ⟨_, _, J7, q6⟩
          | ret u =>
            obtain ⟨v6, σ6, H6, S6, r6, q6⟩ := hsp
            exact end_ S6 fun s7 J7 => ⟨_, _, _, J7, r6, q6⟩
        | false =>
          show wpAny _ X.A (handleBy (.ref a) X.env hds2) _ _ _
          exact ih (hno rfl)
    exact go hh w
  · cases f with
    | next =>
      obtain ⟨σ', H', J', q⟩ := hsp
      exact wpAny_execs_nil ⟨σ', H', J'.ofTry ok, q⟩
    | brk =>
      obtain ⟨σ', H', J', q⟩ := hsp
      exact ⟨σ', H', J'.ofTry ok, q⟩
    | cont =>
      obtain ⟨σ', H', J', q⟩ := hsp
      exact ⟨σ', H', J'.ofTry ok, q⟩
    | ret u =>
      obtain ⟨v, σ', H', J', r, q⟩ := hsp
      exact ⟨v, σ', H', J'.ofTry ok, r, q⟩
end
/-! ### the caught error in a suite -/
/-- e.f -/
def yXf (K : PySem.W.Frag) (a : Addr) (cls : Value) (d : Option Addr) (n : Str) (te : TE) : TE := fun σ H Q => te σ H fun x H1 => x = .ref a ∧ ∃ (C dd : Addr) (fs : List (Str × V)) (v : V), cls = .ref C ∧ isX K n C ∧ d = some dd ∧ H1 dd = some (.xd fs) ∧ fs.lookup n = some v ∧ Q v H1
/-- isinstance(e, c) -/
def zIsS (K : PySem.W.Frag) (a : Addr) (cls : Value) (d : Option Addr) : List V → Hp → VK → Prop := fun xs H Q => ∃ (C : Addr) (b : Bool), cls = .ref C ∧ ExcC K C ∧ (d = none ∨ ∃ (dd : Addr) (fs : List (Str × V)), d = some dd ∧ H dd = some (.xd fs)) ∧
  ((∃ c, xs = [.ref a, .ref c] ∧ PySem.W.kitOne K (.ref C) (.ref c) = some b) ∨ ∃ T, xs = [.ref a, .ty T] ∧ PySem.W.kitOne K (.ref C) (.type T) = some b) ∧ Q (.bl b) H
section
variable {X : Cx} {a : Addr} {oe : Obj} {cls : Value} {d : Option Addr} {pn : List (Addr × Obj)}
theorem caught_inst {C : Addr} {pins : List (Addr × Obj)} {σ : L2.St} {H : Hp} {s : Shared} (I : Inv (X.suite a ((a, oe) :: pn)) pins σ H s) (hz : Zc cls d oe) (hf : ∃ vs, oe.data = .fields vs) (ec : cls = .ref C)
    (hd : d = none ∨ ∃ (dd : Addr) (fs : List (Str × V)), d = some dd ∧ H dd = some (.xd fs)) : ∃ od, PySem.W.InstAt s.heap a oe C od := by
  obtain ⟨ha, _⟩ := I.pin (a, oe) (List.mem_append_left _ List.mem_cons_self)
  obtain ⟨vs, hv⟩ := hf
  rcases hd with e | ⟨dd, fs, e, hx⟩
  · exact ⟨none, ha, hz.1.trans ec, by unfold PySem.W.notCls; rw [hv] <;> rfl, by rw [hz.2, e]; exact True.intro⟩
  · have hx : ObjOk X.prog X.w H s.heap dd (.xd fs) := I.hok dd _ hx
    obtain ⟨mA, hns, hr⟩ := hx
    obtain ⟨od, ho, hl⟩ := lookIn_ns hns
    exact ⟨some od, ha, hz.1.trans ec, by unfold PySem.W.notCls; rw [hv] <;> rfl, by rw [hz.2, e]; exact ho⟩
theorem ye_xf {e : Expr} {te : TE} {pos : Pos} {n : Str} (hz : Zc cls d oe) (hf : ∃ vs, oe.data = .fields vs) (he : PE (X.suite a ((a, oe) :: pn)) e te) (hb : attributeBase e n X.env (eval e X.env) = eval e X.env := by rfl) :
    PE (X.suite a ((a, oe) :: pn)) (.Attribute e n pos) (yXf X.K a cls d n te) := by
  refine ⟨fun pins s σ H Q I h => ?_⟩
  refine attr_of hb (thn (he.run pins s σ H _ I h) fun u s1 hh => ?_)
  obtain ⟨x, H1, I1, rx, ex, C, dd, fs, v, ec, ⟨T, hno⟩, ed, ea, l, q⟩ := hh
  subst ex
  obtain rfl : u = Value.ref a := rx
  subst ec
  subst ed
  obtain ⟨ha, _⟩ := I1.pin (a, oe) (List.mem_append_left _ List.mem_cons_self)
  obtain ⟨vs, hd⟩ := hf
  have hx : ObjOk X.prog X.w H1 s1.heap dd (.xd fs) := I1.hok dd _ ea
  obtain ⟨mA, hns, hr⟩ := hx
  obtain ⟨od, ho, hl⟩ := lookIn_ns hns
  obtain ⟨u, hu, ru⟩ := RelO.some_of (v := v) (o := mA n) (by rw [← l]; exact hr n)
  have J : PySem.W.InstAt s1.heap a oe C (some od) := ⟨ha, hz.1, by unfold PySem.W.notCls; rw [hd] <;> rfl, by rw [hz.2]; exact ho⟩
  exact HandSPX.exc_get I1.kIn J T.ga T.gg T.exC (PySem.W.findObj_own T.hdC hno rfl (by rw [hl, hu])) (handed_of ru) ⟨v, H1, I1.tok _, ru, q⟩
theorem cr_isS (hz : Zc cls d oe) (hf : ∃ vs, oe.data = .fields vs) : CallR (X.suite a ((a, oe) :: pn)) (.builtin "isinstance") (zIsS X.K a cls d) := by
  intro pins s σ H xs us Q I r h
  obtain ⟨C, b, ec, T, hd, hk, q⟩ := h
  obtain ⟨od, J⟩ := caught_inst I hz hf ec hd
  rcases hk with ⟨c, rfl, e⟩ | ⟨c, rfl, e⟩
  all_goals
    obtain ⟨u1, u2, rfl, r1, r2⟩ := vals2 r
    cases r1
    cases r2
    exact PySem.W.kia_one (kitx_exc T) I.kIn ⟨oe, od, J⟩ e (fun z => nomatch z) fun tk => ⟨.bl b, H, I.kept (t' := tk) fun _ _ z => z, rfl, q⟩
end
/-! ### isinstance of a text or an own instance -/
def zIsO (K : PySem.W.Frag) : List V → Hp → VK → Prop := fun xs H Q => match xs with
  | [.str _, .ref c] => ∃ b, PySem.W.kitOne K (.type "str") (.ref c) = some b ∧ Q (.bl b) H
  | [.ref a, .ref c] => ∃ t b, TyOf K H (.ref a) t ∧ PySem.W.kitOne K t (.ref c) = some b ∧ Q (.bl b) H
  | _ => False
theorem cr_isO {X : Cx} : CallR X (.builtin "isinstance") (zIsO X.K) := CallR.imp call_isi fun xs H Q q => by
  unfold zIsO at q
  split at q
  · obtain ⟨b, h, q⟩ := q
    exact ⟨_, _, _, _, b, rfl, .own _, .base (.str _), h, q⟩
  · obtain ⟨t, b, ty, h, q⟩ := q
    exact ⟨_, _, _, _, b, rfl, .own _, .base ty, h, q⟩
  · exact q.elim
end Eb

/-! f-strings, zip of tuples, repeated texts, comprehensions stored under a name. -/
namespace Eb
open PySem PySem.Spec PyProof.Rows L2
/-! ### f-strings -/
def yFmt (te : TE) : TE := fun σ H Q => te σ H fun x H1 => match x with
  | .str y => y.length ≤ 16777216 ∧ Q (.str y) H1
  | .int i => i.natAbs.log2 < 1920 ∧ Q (.str (toString i)) H1
  | _ => False
def yJs : List TE → Str → L2.St → Hp → (Str → Hp → Prop) → Prop
  | [], acc, _, H, Q => Q acc H
  | t :: ts, acc, σ, H, Q => t σ H fun x H1 => match x with
    | .str y => (acc ++ y).length ≤ 16777216 ∧ yJs ts (acc ++ y) σ H1 Q
    | _ => False
def yJoin (ts : List TE) : TE := fun σ H Q => yJs ts Str.empty σ H fun out H1 => Q (.str out) H1
section
variable {X : Cx}
theorem ye_fmt {e : Expr} {te : TE} {pos : Pos} (he : PE X e te) : PE X (.FormattedValue e (-1) none pos) (yFmt te) := PE.imp (pe_fmt (PE.up he)) fun σ H Q q => ⟨_, q, fun x H1 q1 => by
  cases x <;> first | exact False.elim q1 | skip
  · exact .inr ⟨_, rfl, q1.1, q1.2⟩
  · exact .inl ⟨_, rfl, q1.1, q1.2⟩⟩
theorem pj_up : ∀ {es : List Expr} {ts : List TE}, PJ X es ts → PJ X es (ts.map upE) := by
  intro es ts h
  induction h with
  | nil => exact .nil
  | cons h r ih => exact .cons (PE.up h) ih
theorem js_up : ∀ (ts : List TE) (acc : Str) (σ : L2.St) (H : Hp) (Q : Str → Hp → Prop), yJs ts acc σ H Q → tJs (ts.map upE) acc σ H Q
  | [], _, _, _, _, q => q
  | t :: ts, acc, σ, H, Q, q => ⟨_, q, fun x H1 q1 => by
    cases x <;> first | exact False.elim q1 | skip
    exact ⟨_, rfl, q1.1, js_up ts _ σ H1 Q q1.2⟩⟩
theorem ye_joined {v1 v2 : Expr} {rest : List Expr} {ts : List TE} {pos : Pos} (h : PJ X (v1 :: v2 :: rest) ts) : PE X (.JoinedStr (v1 :: v2 :: rest) pos) (yJoin ts) := PE.imp (pe_joined (pj_up h)) fun σ H Q q => js_up ts _ σ H _ q
/-! ### zip of tuples -/
theorem walk_zipT {K : PySem.W.Frag} {a b : Addr} {xs ys : List V} : Walk (RZ.ItzT K a b) (min xs.length ys.length) (fun H => SqT K H a xs ∧ SqT K H b ys) (YPair (fun i => xs[i]?) (fun i => ys[i]?)) := by
  refine ⟨fun i _ hi q => ?_, fun _ q => ⟨xs, ys, q.1, q.2, by omega⟩, fun i H v H' _ q y => ?_⟩
  · have h1 : i < xs.length := by omega
    have h2 : i < ys.length := by omega
    exact ⟨xs, ys, xs[i], ys[i], q.1, q.2, by simp [h1], by simp [h2]⟩
  · obtain ⟨T, x, z, h1, h2, h3, h4, h5⟩ := y
    exact ⟨T, x, z, h1, h2, h3, h4 xs q.1, h5 ys q.2⟩
def jZipT (K : PySem.W.Frag) (tl th : TE) : Src := fun σ H R => tl σ H fun x H1 => th σ H1 fun y H2 => match x, y with
  | .ref a, .ref b => ∃ xs ys, SqT K H2 a xs ∧ SqT K H2 b ys ∧ R (min xs.length ys.length) (fun H => SqT K H a xs ∧ SqT K H b ys) (YPair (fun i => xs[i]?) (fun i => ys[i]?)) H2
  | _, _ => False
theorem j_zipT {a b : Expr} {ta tb : TE} {p pos tpos : Pos} {elts : List Expr} {kk : Nat} (hg : Gl X "zip") (hm : X.mg "zip" = none) (ha : PE X a ta) (hb : PE X b tb) (hs : starEach [a, b] X.env = (false, eval a X.env) :: starEach [b] X.env := by rfl) (hs2 : starEach [b] X.env = (false, eval b X.env) :: starEach [] X.env := by rfl) (hpl : (backTo pos (starEach [b] X.env)).any (·.1) = false := by rfl) : PSrc X (.Tuple elts kk tpos) (.Call (.Name "zip" p) [a, b] [] pos) (jZipT X.K ta tb) := ⟨_, RZ.pi_zipA hg hm (pa_cons (PE.up ha) (pa_cons (PE.up hb) pa_nil hs2) hs) hs hpl, fun σ H R R' q k => ⟨_, q, fun x H1 q1 => ⟨_, q1, fun y H2 q2 => by
  cases x <;> cases y <;> first | exact False.elim q2 | skip
  obtain ⟨xs, ys, h1, h2, q3⟩ := q2
  exact ⟨_, _, xs, ys, rfl, .inr ⟨h1, h2, k _ _ _ _ q3 _ walk_zipT⟩⟩⟩⟩⟩
theorem blkOk_in {N : List Str} {sc S1 S : Scope} {own : List (Str × Nat)} {s : Shared} {H : Hp} {cl : List (Str × Addr)} {C : Addr} {fp : List Addr} (hN : X.N = N) (hs : X.env.scope = sc) (h : blkC N (relS S1 sc) S own = true) :
    BlkOk (X.blk s H S1 (compEnvC S1 cl C X.env) fp).N (X.blk s H S1 (compEnvC S1 cl C X.env) fp).env.scope S own := by
  subst hN
  subst hs
  exact blkOk_by h
/-! ### a comprehension stored under a name -/
theorem ys_setLc {i : Nat} {y : Str} {py spos : Pos} {tg iter : Expr} {src : Src} {g : TG} {tt : TT} {te : TE} {elt : Expr} {ifs : List Expr} {scope : Scope} {own : List (Str × Nat)} {pos : Pos} (hc : X.calm = true) (hN : X.N.Nodup) (hy : X.N[i]? = some y) (hyl : X.env.scope.names.lookup y = some .local)
    (hsw : swapsWith (.ListComp elt [⟨tg, iter, ifs, 0⟩] scope pos) (some (.Name y py)) spos.line X.env = pure true) (hi : PSrc X tg iter src) (ok : BlkOk X.N X.env.scope scope own)
    (hg : ∀ (s : Shared) (H : Hp) (C : Addr) (cl : List (Str × Addr)) (fp : List Addr), PG (X.blk s H scope (compEnvC scope cl C X.env) fp) tg g) (ht : ∀ (s : Shared) (H : Hp) (C : Addr) (cl : List (Str × Addr)) (fp : List Addr), PTs (X.blk s H scope (compEnvC scope cl C X.env) fp) ifs tt)
    (he : ∀ (s : Shared) (H : Hp) (C : Addr) (cl : List (Str × Addr)) (fp : List Addr), PE (X.blk s H scope (compEnvC scope cl C X.env) fp) elt te) (hs : ∀ x, foldedSetIterable iter X.env x = pure x := by intro _; rfl) :
    PS X (.Assign [.Name y py] (.ListComp elt [⟨tg, iter, ifs, 0⟩] scope pos) spos) (tAsg (yLc src g tt te (own.map (·.2))) (gName i)) := by
  obtain ⟨wi, h, k⟩ := hi.wi
  refine PS.imp (ps_setLc hc hN hy hyl hsw h ok (fun s H C cl fp => PG.up (hg s H C cl fp)) (fun s H C cl fp => PTs.up (ht s H C cl fp)) (fun s H C cl fp => PE.up (he s H C cl fp)) hs) fun D σ H q => k σ H _ _ q fun n G Y H1 hh J w D' hD => ?_
  exact lc_ends (Qd := fun x H1 => gName i x σ H1 D.nx) (g := g) (tt := tt) (te := te) (vs := own.map (·.2)) (σ := σ) (H1 := H1) w D' (hh D' hD)
/-! ### a repeated text -/
@[irreducible] def repS (x : Str) (k : Nat) : Str := ⟨(List.replicate k x.cps).foldl (· ++ ·) #[]⟩
def zRepS : R2 := fun x y H Q => match x, y with
  | .str z, .int k => 0 ≤ k ∧ k ≤ 100000 ∧ z.length ≤ 100 ∧ Q (.str (repS z k.toNat)) H
  | _, _ => False
theorem repS_one (x : Str) : repS x 1 = x := by
  unfold repS
  simp
theorem repS_zero (x : Str) : repS x 0 = Str.empty := by
  unfold repS
  rfl
theorem rep_empty (k : Nat) : (List.replicate k (#[] : Array Nat)).foldl (· ++ ·) #[] = #[] := by
  induction k with
  | zero => rfl
  | succ k ih =>
    rw [List.replicate_succ, List.foldl_cons]
    simpa using ih
theorem rep_size (a : Array Nat) : ∀ (k : Nat) (b : Array Nat), ((List.replicate k a).foldl (· ++ ·) b).size = b.size + k * a.size
  | 0, b => by simp
  | k + 1, b => by
    rw [List.replicate_succ, List.foldl_cons, rep_size a k, Array.size_append, Nat.succ_mul]
    omega
theorem repS_len (x : Str) (k : Nat) : (repS x k).length = k * x.length := by
  unfold repS
  show ((List.replicate k x.cps).foldl (· ++ ·) #[]).size = k * x.cps.size
  rw [rep_size]
  simp
theorem op_zRepS : OpR X (binaryOp .Mult) zRepS := by
  intro pins s σ H x y v u Q I rx ry h
  unfold zRepS at h
  split at h
  · rename_i z k
    obtain ⟨h0, h1, hz, q⟩ := h
    obtain ⟨t, rfl⟩ := rx
    obtain ⟨t2, rfl⟩ := ry
    refine PySem.P.mul_str (by rw [decide_eq_false (by omega), decide_eq_false (by omega)]; rfl) (fun hk _ => ?_) (fun hk _ => ?_) ?_
    · have e1 : (z.length : Int) ≤ 100 := by omega
      have e2 : (100 : Int) ≤ (2 ^ 63 - 1) / k := by
        rw [Int.le_ediv_iff_mul_le (by omega)]
        omega
      omega
    · have e1 : z.length * k.toNat ≤ 100 * 100000 := Nat.mul_le_mul hz (by omega)
      show decide (z.length * k.toNat > sizeLine) = false
      rw [sizeLine_eq]
      exact decide_eq_false (by omega)
    · by_cases hk : k < 1
      · rw [if_pos hk]
        have e : k.toNat = 0 := by omega
        rw [e, repS_zero] at q
        exact ⟨by decide, .str Str.empty, H, I.tok _, ⟨_, rfl⟩, q⟩
      · rw [if_neg hk]
        by_cases h2 : (k == 1 || z.length == 0) = true
        · rw [if_pos h2]
          refine ⟨.str z, H, I, ⟨t, rfl⟩, ?_⟩
          have e : repS z k.toNat = z := by
            rcases Bool.or_eq_true_iff.mp h2 with a | a
            · have a : k = 1 := by simpa using a
              rw [a]
              exact repS_one z
            · have a : z.cps.size = 0 := by simpa [Str.length] using a
              have b : z.cps = #[] := Array.eq_empty_of_size_eq_zero a
              obtain ⟨zc⟩ := z
              dsimp only at b
              subst b
              unfold repS
              rw [rep_empty]
          rw [e] at q
          exact q
        · rw [if_neg h2]
          refine ⟨?_, .str (repS z k.toNat), H, I.tok _, ⟨_, by unfold repS; rfl⟩, q⟩
          have er : (⟨(List.replicate k.toNat z.cps).foldl (· ++ ·) #[]⟩ : Str) = repS z k.toNat := by
            unfold repS
            rfl
          rw [er]
          rw [repS_len, sizeLine_eq]
          have e1 : k.toNat * z.length ≤ 100000 * 100 := Nat.mul_le_mul (by omega) hz
          omega
  · exact h.elim
/-! ### a name of the module -/
theorem pe_globE {x : Str} {v : V} {pos : Pos} (hg : Gl X x) (h : ∃ u, X.mg x = some u ∧ RelV v u) (hd : (x == ("__debug__" : Str)) = false := by decide) : PE X (.Name x pos) (tC v) := by
  obtain ⟨u, h1, h2⟩ := h
  exact pe_glob hg h1 h2 hd
end
/-! ### fields of one class, or two -/
theorem cf1 {K : PySem.W.Frag} {x f : Str} (h : Cls K (He.ga K x) ∧ NoAttr K (He.ga K x) f) : ∀ C, isC K [x] C → Cls K C ∧ NoAttr K C f := fun C e => by
  have e : C = He.ga K x := e
  rw [e]
  exact h
end Eb

/-! Operators of own classes: len, [], ==, !=, +, *, ~. -/
namespace Eb
open PySem PySem.Spec PyProof.Rows L2
section
variable {X : Cx} {m x : Str} {k : Nat} {ps : List Str} {sp : Sp} {W : WX}
/-- a call of an own def at an around of the same frames -/
theorem run_at {f : Addr} {fd : FuncData} {A : Around} {E : L2.St → XK} {pins : List (Addr × Obj)} {σ : L2.St} {H : Hp} {s : Shared} {Q : VK} {us : List Value} {vs : List V} (F : FnOk X.prog X.w X.K X.mg X.base (L2.CX X.prog X.w) k f fd ps sp) (hr : Room k A) (hfr : A.frames = X.A.frames) (hb : Binds X.K fd ps []) (hx : PassesAt (L2.CX X.prog X.w) X σ (E σ))
    (I : Inv X pins σ H s) (r : Vals vs us) (h : sp vs H Q (E σ)) : wpAny (model X.prog X.w) A (call (.ref f) us) (EP X pins σ Q) X.xe s := by
  have hl : us.length = ps.length := by rw [← r.length]; exact F.len _ _ _ _ h
  have b := hb s us I.kIn (by rw [List.append_nil]; exact hl)
  rw [List.append_nil] at b
  have e0 : Env0 X.prog X.w X.K X.mg X.base A X.stack s H := by
    have e := I.env0
    exact ⟨by rw [hfr]; exact e.frames, e.mod, e.bs, e.bsz, e.funs, e.frf, e.hok, e.bare⟩
  refine wpAny_call (codeAny_mono (F.run A X.stack s H ⟨us, []⟩ us vs Q (E σ) hr e0 b r h) fun r s' hq => ?_)
  cases r with
  | error e => exact hx pins H s e s' I hq
  | ok fl =>
    cases fl with
    | ret u => exact I.after hq
    | next => exact False.elim hq
    | brk => exact False.elim hq
    | cont => exact False.elim hq
theorem in1_frames (A : Around) : A.in1.frames = A.frames := rfl
/-! ### len(o) -/
def zLenO (C : Addr) (sp : Sp) : List V → Hp → VK → Prop := fun xs H Q => match xs with
  | [.ref a] => ∃ dx fs, H a = some (.ins C dx fs) ∧ sp [.ref a] H (fun v H' => match v with
    | .int n => (0 ≤ n ∧ n < 2 ^ 63) ∧ Q (.int n) H'
    | _ => False) E0
  | _ => False
theorem cr_lenO {CN : Str} (M : OMe X.prog X.w X.K X.mg X.base CN "__len__" k ps sp) (hr : Room (k + 1) X.A) : CallR X (.builtin "len") (zLenO (He.ga X.K CN) sp) := by
  obtain ⟨f, fd, h1, h2, h3⟩ := M.ex
  intro pins s σ H xs us Q I r h
  unfold zLenO at h
  split at h
  · obtain ⟨dx, fs, e, q⟩ := h
    obtain ⟨u, rfl, r1⟩ := vals1 r
    cases r1
    obtain ⟨mA, J, _⟩ := ins_get I.hok e
    obtain ⟨od, J, _⟩ := J.look
    obtain ⟨m, hF⟩ := I.fr
    refine PySem.W.len_K hF I.ok.mod.kin J h1.at_ h1.fn (wpAny_mono (run_at (vs := [.ref _]) h2 hr.in1 rfl h3 (passAt tk0 σ) I (.cons rfl .nil) q) (fun v s' hq => ?_) fun _ _ z => z)
    obtain ⟨w', H', I', rv, q'⟩ := hq
    cases w' <;> first | exact q'.elim | skip
    obtain ⟨t, rfl⟩ := rv
    exact ⟨q'.1, .int _, H', I'.tok _, ⟨_, rfl⟩, q'.2⟩
  · exact h.elim
/-! ### o[i] -/
def getO (C : Addr) (sp : Sp) {W : WX} (σ : L2.St) (Q : VK) (x : V) : VK := fun y H2 => match x with
  | .ref a => ∃ dx fs, H2 a = some (.ins C dx fs) ∧ sp [.ref a, y] H2 Q fun cls d H' => W cls d σ H'
  | _ => False
def yGetO (C : Addr) (sp : Sp) (W : WX) (ta tb : TE) : TE := fun σ H Q => ta σ H fun x H1 => tb σ H1 (getO C sp (W := W) σ Q x)
theorem ye_getO {CN : Str} {a b : Expr} {ta tb : TE} {pos : Pos} (M : OMe X.prog X.w X.K X.mg X.base CN "__getitem__" k ps sp) (hfn : ∀ f, Meth X.K (He.ga X.K CN) "__getitem__" f → PySem.W.fnIn X.K f = true) (tk : Takes X W) (hr : Room (k + 1) X.A) (ha : PE X a ta) (hb : PE X b tb)
    (hsl : ∀ v i : Value, subscripted b true v i = runValue (.builtin "lifetime.subscript" ⟨[v, i], []⟩) := by intro _ _; rfl) : PE X (.Subscript a b pos) (yGetO (He.ga X.K CN) sp W ta tb) := by
  obtain ⟨f, fd, h1, h2, h3⟩ := M.ex
  refine ⟨fun pins s σ H Q I h => ?_⟩
  refine Subscript_ (thn (ha.run pins s σ H _ I h) fun v s1 hv => ?_)
  obtain ⟨x, H1, I1, rx, q1⟩ := hv
  refine wpAny_mono ((PE.up hb).run pins s1 σ H1 (getO (He.ga X.K CN) sp (W := W) σ Q x) I1 ⟨_, q1, fun y H2 q2 => q2⟩) (fun u s2 hu => ?_) fun _ _ z => z
  obtain ⟨y, H2, I2, ry, q⟩ := hu
  cases x <;> first | exact False.elim q | skip
  obtain ⟨dx, fs, e, q⟩ := q
  cases rx
  obtain ⟨mA, J, _⟩ := ins_get I2.hok e
  obtain ⟨od, J, _⟩ := J.look
  obtain ⟨m, hF⟩ := I2.fr
  exact PySem.W.sub_K hF I2.ok.mod.kin J h1.at_ (hfn f h1) h1.fn (run_at (vs := [.ref _, y]) h2 hr.in1 rfl h3 (passAt tk σ) I2 (.cons rfl (.cons ry .nil)) q) (hsl _ _)
/-! ### o == p, o != p -/
def zEqO (C : Addr) (sp : Sp) : R2 := fun x y H Q => match x, y with
  | .ref a, .ref b => ∃ dx fs dy gs, H a = some (.ins C dx fs) ∧ H b = some (.ins C dy gs) ∧ sp [.ref a, .ref b] H (fun v H' => match v with
    | .bl r => Q (.bl r) H'
    | _ => False) E0
  | _, _ => False
def zNeO (C : Addr) (sp : Sp) : R2 := fun x y H Q => match x, y with
  | .ref a, .ref b => ∃ dx fs dy gs, H a = some (.ins C dx fs) ∧ H b = some (.ins C dy gs) ∧ sp [.ref a, .ref b] H (fun v H' => match v with
    | .bl r => Q (.bl (!r)) H'
    | _ => False) E0
  | _, _ => False
theorem op_zEqO {CN : Str} (M : OMe X.prog X.w X.K X.mg X.base CN "__eq__" k ps sp) (hr : Room (k + 1) X.A) : OpR X (compareOp .Eq) (zEqO (He.ga X.K CN) sp) := by
  obtain ⟨f, fd, h1, h2, h3⟩ := M.ex
  intro pins s σ H x y v u Q I rx ry h
  unfold zEqO at h
  split at h
  · rename_i a b
    obtain ⟨dx, fs, dy, gs, ea, eb, q⟩ := h
    cases rx
    cases ry
    obtain ⟨mA, J, _⟩ := ins_get I.hok ea
    obtain ⟨mB, J', _⟩ := ins_get I.hok eb
    obtain ⟨od, J, _⟩ := J.look
    obtain ⟨od', J', _⟩ := J'.look
    obtain ⟨m, hF⟩ := I.fr
    show wpAny (model X.prog X.w) X.A (richCompare .Eq _ _) (EP X pins σ Q) X.xe s
    refine PySem.W.cmp_K (op := .Eq) (tb := .ref (He.ga X.K CN)) hr.units0 hF I.ok.mod.kin J J'.type (by simp [PySem.W.notFirst]) h1.at_ h1.fn (wpAny_mono (run_at (vs := [.ref a, .ref b]) h2 (hr.mono (Nat.le_succ k)) rfl h3 (passAt tk0 σ) I (.cons rfl (.cons rfl .nil)) q) (fun v s' hq => ?_) fun _ _ z => z)
    obtain ⟨w', H', I', rv, q'⟩ := hq
    cases w' <;> first | exact False.elim q' | skip
    cases rv
    exact ⟨.bl _, H', I', rfl, q'⟩
  · exact h.elim
theorem ifBound_B {M : Model} {A : Around} {E : Value → Shared → Prop} {s : Shared} {K : PySem.W.Frag} {x C : Addr} {ox : Obj} {od : Option Obj} {name : Str} {id : String} {args : List Value} {Q : Option Value → Shared → Prop} (X : K.In s.heap) (I : PySem.W.InstAt s.heap x ox C od) (hs : PySem.W.findIn K (.ref C) name = some (some (.builtin id)))
    (hb : ∀ self, bindSpecial (.builtin id) self = pure (.builtin id, [self])) (h : wpAny M A (call (.builtin id) (.ref x :: args)) (fun v => Q (some v)) E s) : wpAny M A (callSpecialIfBound? (.ref x) name args) Q E s := by
  simp only [callSpecialIfBound?, bindSpecialIfBound?]
  refine wpAny_holding (wpAny_bind (wpAny_bind (wpAny_bind (I.type.here ((PySem.W.looks_findIn X hs).here ?_)))))
  refine wpAny_bind (wpAny_askSetting (wpAny_ite ?_))
  have fin : wpAny M A (call (.builtin id) ([.ref x] ++ args) >>= fun v => pure (some v)) Q E s := wpAny_bind (wpAny_mono h (fun v s' h' => wpAny_pure h') fun _ _ h' => h')
  split
  · exact wpAny_bind ((PySem.W.Looks.of_pure (hb _)).here (wpAny_pure (by exact fin)))
  · exact wpAny_tryCatch (wpAny_bind ((PySem.W.Looks.of_pure (hb _)).here (wpAny_pure (by exact fin))))
theorem rc_ne {prog : Program} {w : World} {A : Around} {E : Value → Shared → Prop} {s : Shared} {K : PySem.W.Frag} {a b C L f : Addr} {h₀ : Heap} {m : Str → Option Value} {ox oy : Obj} {od od' : Option Obj} {Q : Value → Shared → Prop} (hu : A.units + 2 < cLine) (F : Fr h₀ L s.heap m) (X₀ : K.In h₀) (I : PySem.W.InstAt s.heap a ox C od) (I' : PySem.W.InstAt s.heap b oy C od')
    (hm : PySem.W.mroIn K C (.type "object") = some true) (hn : PySem.W.findIn K (.ref C) "__ne__" = some (some (.builtin "object.__ne__"))) (hs : PySem.W.findIn K (.ref C) "__eq__" = some (some (.ref f))) (hf : PySem.W.isFn K (.ref f) = true)
    (h : wpAny (model prog w) A.in1 (call (.ref f) [.ref a, .ref b]) (fun v s' => ∃ r, v = .bool r ∧ Q (.bool (!r)) s') E s) : wpAny (model prog w) A (richCompare .NotEq (.ref a) (.ref b)) Q E s := by
  have X := X₀.keeps F.keep
  have one : wpAny (model prog w) A (tryCompare (.ref a) (cmpInfo .NotEq).2.1 (.ref b)) (fun r s' => ∃ v, r = some v ∧ Q v s') E s := by
    unfold tryCompare
    refine wpAny_bind (ifBound_B (id := "object.__ne__") X I hn (fun _ => rfl) (wpAny_call (codeAny_call_builtin (by decide +kernel) PySem.F.cmpEntry_ne (PySem.W.check_slot (i := "object.__ne__") (owner := "object") (n := "__ne__") PySem.F.cmpKind_ne PySem.F.cmpSplit_ne (I.type.andThen (PySem.W.looks_mroIn X hm)) (PySem.F.cmpArgs_ne _ _) ?_))))
    unfold Builtin.«object.__ne__»
    refine wpAny_bind (m := slotArgs "__ne__" 1 _) (wpAny_pure ?_)
    refine wpAny_bind (m := cRoomFor _ _) (wpAny_cRoomFor (by show A.units + 1 < cLine; omega) ?_)
    refine wpAny_bind (m := callSpecialIfBound? (.ref a) (Str.ofString "__eq__") _) (PySem.W.ifBound_K X I hs hf (wpAny_mono h (fun r s' hr => ?_) fun _ _ y => y))
    obtain ⟨r, rfl, hq⟩ := hr
    refine wpAny_bind (m := truthy (.bool r)) (wpAny_truthy_bool ?_)
    first
      | exact wpAny_pure (wpAny_pure ⟨_, rfl, hq⟩)
      | exact wpAny_pure ⟨rfl, wpAny_pure ⟨_, rfl, hq⟩⟩
      | exact ⟨_, rfl, wpAny_pure ⟨_, rfl, hq⟩⟩
      | exact wpAny_pure ⟨_, rfl, wpAny_pure ⟨_, rfl, hq⟩⟩
      | exact wpAny_pure ⟨_, rfl, hq⟩
  unfold richCompare
  simp only [oneThing_ref]
  refine wpAny_holding (wpAny_bind (wpAny_cRoomFor (by omega) ?_))
  refine wpAny_bind (I.type.here (wpAny_bind (I'.type.here ?_)))
  rw [show (Value.ref C != Value.ref C) = false from by simp]
  simp only [Bool.false_eq_true, if_false]
  refine wpAny_bind (wpAny_pure ?_)
  simp only [Bool.false_eq_true, if_false]
  refine wpAny_bind (wpAny_mono one (fun r s' z => ?_) fun _ _ e => e)
  obtain ⟨v, rfl, hq⟩ := z
  exact wpAny_pure hq
/-- the class has no != of its own -/
structure NoNe (K : PySem.W.Frag) (C : Addr) : Prop where
  m : PySem.W.mroIn K C (.type "object") = some true
  n : PySem.W.findIn K (.ref C) "__ne__" = some (some (.builtin "object.__ne__"))
theorem op_zNeO {CN : Str} (M : OMe X.prog X.w X.K X.mg X.base CN "__eq__" k ps sp) (N : NoNe X.K (He.ga X.K CN)) (hr : Room (k + 1) X.A) : OpR X (compareOp .NotEq) (zNeO (He.ga X.K CN) sp) := by
  obtain ⟨f, fd, h1, h2, h3⟩ := M.ex
  intro pins s σ H x y v u Q I rx ry h
  unfold zNeO at h
  split at h
  · rename_i a b
    obtain ⟨dx, fs, dy, gs, ea, eb, q⟩ := h
    cases rx
    cases ry
    obtain ⟨mA, J, _⟩ := ins_get I.hok ea
    obtain ⟨mB, J', _⟩ := ins_get I.hok eb
    obtain ⟨od, J, _⟩ := J.look
    obtain ⟨od', J', _⟩ := J'.look
    obtain ⟨m, hF⟩ := I.fr
    show wpAny (model X.prog X.w) X.A (richCompare .NotEq _ _) (EP X pins σ Q) X.xe s
    refine rc_ne (by have := hr.units; omega) hF I.ok.mod.kin J J' N.m N.n h1.at_ h1.fn (wpAny_mono (run_at (vs := [.ref a, .ref b]) h2 hr.in1 rfl h3 (passAt tk0 σ) I (.cons rfl (.cons rfl .nil)) q) (fun v s' hq => ?_) fun _ _ z => z)
    obtain ⟨w', H', I', rv, q'⟩ := hq
    cases w' <;> first | exact False.elim q' | skip
    cases rv
    exact ⟨_, rfl, .bl _, H', I', rfl, q'⟩
  · exact h.elim
/-! ### o + p -/
def zAddO (C : Addr) (sp : Sp) (E : XK) : R2 := fun x y H Q => match x, y with
  | .ref a, .ref b => ∃ dx fs dy gs, H a = some (.ins C dx fs) ∧ H b = some (.ins C dy gs) ∧ sp [.ref a, .ref b] H (fun v H' => match v with
    | .ref r => Q (.ref r) H'
    | _ => False) E
  | _, _ => False
theorem op_zAddO {CN : Str} {E : XK} (M : OMe X.prog X.w X.K X.mg X.base CN "__add__" k ps sp) (hc : PySem.W.selfFirst X.K (He.ga X.K CN) = true) (tk : Takes X fun cls d _ H => E cls d H) (hr : Room (k + 1) X.A) : OpR X (binaryOp .Add) (zAddO (He.ga X.K CN) sp E) := by
  obtain ⟨f, fd, h1, h2, h3⟩ := M.ex
  intro pins s σ H x y v u Q I rx ry h
  unfold zAddO at h
  split at h
  · rename_i a b
    obtain ⟨dx, fs, dy, gs, ea, eb, q⟩ := h
    cases rx
    cases ry
    obtain ⟨mA, J, _⟩ := ins_get I.hok ea
    obtain ⟨mB, J', _⟩ := ins_get I.hok eb
    obtain ⟨od, J, _⟩ := J.look
    obtain ⟨od', J', _⟩ := J'.look
    obtain ⟨m, hF⟩ := I.fr
    refine PySem.W.binop_K (op := .Add) hF I.ok.mod.kin J J'.type hc h1.at_ h1.fn (wpAny_mono (run_at (E := fun _ => E) (vs := [.ref a, .ref b]) h2 (hr.mono (Nat.le_succ k)) rfl h3 (passAt tk σ) I (.cons rfl (.cons rfl .nil)) q) (fun v s' hq => ?_) fun _ _ z => z)
    obtain ⟨w', H', I', rv, q'⟩ := hq
    cases w' <;> first | exact False.elim q' | skip
    cases rv
    exact ⟨.ref _, H', I', rfl, q'⟩
  · exact h.elim
end
/-- the class's instances are made with the text's own forms -/
structure PlainC (K : PySem.W.Frag) (C : Addr) : Prop where
  cl : Cls K C
  ha : PySem.W.findIn K (.ref C) "__class__" = some (some (.builtin "object.__class__"))
  hn : PySem.W.specialIn K (.builtin "object.__class__") "__get__" = some (some (.builtin "getset_descriptor.__get__"))
  ht : PySem.W.takesIn K (.builtin "object.__class__") = some true
  hm : PySem.W.mroIn K C (.type "object") = some true
theorem PlainC.ty {K : PySem.W.Frag} {C a dx : Addr} {H : Hp} {fs : List (Str × V)} (p : PlainC K C) (e : H a = some (.ins C dx fs)) : TyOf K H (.ref a) (.ref C) := .ins e p.cl p.ha p.hn p.ht p.hm
end Eb

/-! The end of a law whose own text shows structured data: its def is run at the caller alone (so that it is known that nothing is being shown around it). -/
namespace Eb
open PySem PySem.Spec PyProof.Rows L2
/-- a def, run where the law is called -/
def AtCaller (P : Program) (w : World) (K : PySem.W.Frag) (mg : Str → Option Value) (base : Heap) (fa : Addr) (fd : FuncData) (x : Str) (sp : Sp) : Prop :=
  ∀ (s : Shared) (H : Hp) (u : Value) (v : V) (Q : VK), Env0 P w K mg base callerA [] s H → BindsTo s fd ⟨[u], []⟩ [(x, u)] → RelV v u → sp [v] H Q E0 →
    codeAny (model P w) callerA (.call (.ref fa) ⟨[u], []⟩) (CR CX0 [] P w H s Q E0) s
def lawHp (K : PySem.W.Frag) (ts : List Addr) (a : Addr) (ob : Obj) (xs : List V) : Hp := fun b =>
  if b ∈ ts then some (.tbl #[]) else if b = a ∧ (K.lookup a).isNone = true then some (.frz ob (.lst xs)) else none
section
variable {K : PySem.W.Frag} {ts : List Addr} {a b : Addr} {ob : Obj} {xs : List V}
theorem lawHp_tab (h : b ∈ ts) : lawHp K ts a ob xs b = some (.tbl #[]) := if_pos h
theorem lawHp_inv {u : HO} (h : lawHp K ts a ob xs b = some u) : (b ∈ ts ∧ u = .tbl #[]) ∨ (b ∉ ts ∧ b = a ∧ K.lookup a = none ∧ u = .frz ob (.lst xs)) := by
  unfold lawHp at h
  by_cases h1 : b ∈ ts
  · rw [if_pos h1] at h
    exact .inl ⟨h1, (Option.some.inj h).symm⟩
  · rw [if_neg h1] at h
    by_cases h2 : b = a ∧ (K.lookup a).isNone = true
    · rw [if_pos h2] at h
      exact .inr ⟨h1, h2.1, Option.isNone_iff_eq_none.mp h2.2, (Option.some.inj h).symm⟩
    · rw [if_neg h2] at h
      cases h
end
theorem law_end {P : Program} {w : World} {K : PySem.W.Frag} {mg mb : Str → Option Value} {fa a : Addr} {tabs : List (Addr × Addr)} {fd : FuncData} {x : Str} {sp : Sp} {s : Shared} {us : List Value} {ns : List Int}
    (kin : K.In s.heap) (nsG : s.heap.Ns mainGlobals mg) (nsB : s.heap.Ns builtinsNs mb) (boot : ∀ y : Str, y ≠ "__name__" → mb y = bootBuiltins y) (lim : s.heap.NoLimit) (gens : s.gens = #[])
    (empty : ∀ p ∈ tabs, s.heap.get? p.2 = some { cls := .none, data := .fields #[] }) (free : ∀ p ∈ tabs, K.lookup p.2 = none) (code : ∀ p ∈ tabs, PySem.W.CodeHd s.heap p.1 p.2)
    (mod : ∃ (bm : Addr) (o : Obj), mg "__builtins__" = some (.ref bm) ∧ bm ≠ builtinsNs ∧ s.heap.get? bm = some o ∧ o.cls = .type "module" ∧ o.dict = some builtinsNs ∧ o.data = .plain)
    (hscr : s.heap.get? a = some { cls := .type "list", data := .seq us.toArray }) (hin : IntsAre us ns) (most : ns.length ≤ sizeLine)
    (run : ∀ base : Heap, K.In base → base.Ns mainGlobals mg → (∀ p ∈ tabs, LamX.TabB base mg p.1 p.2) → AtCaller P w K mg base fa fd x sp)
    (bind : ∀ (s : Shared) (u : Value), BindsTo s fd ⟨[u], []⟩ [(x, u)])
    (due : ∀ H : Hp, (∀ p ∈ tabs, H p.2 = some (.tbl #[])) → SqL K H a (ns.map V.int) → sp [.ref a] H (fun v _ => v = .bl true) E0) :
    codeAny (model P w) callerA (.call (.ref fa) ⟨[.ref a], []⟩) (fun r s' => r = .ok (.ret (.bool true)) ∧ OldK s.heap s'.heap ∧ s'.os = s.os ∧ AllBare s'.gens) s := by
  have lenU := hin.length
  generalize hob : ({ cls := .type "list", data := .seq us.toArray } : Obj) = ob at hscr
  generalize hts : tabs.map (·.2) = ts
  have inT : ∀ p ∈ tabs, p.2 ∈ ts := fun p hp => by rw [← hts]; exact List.mem_map_of_mem hp
  have ofT : ∀ b, b ∈ ts → ∃ p ∈ tabs, p.2 = b := fun b hb => by rw [← hts] at hb; exact List.mem_map.mp hb
  have tabAt : ∀ b, b ∈ ts → s.heap.get? b = some { cls := .none, data := .fields #[] } := fun b hb => by
    obtain ⟨p, hp, rfl⟩ := ofT b hb
    exact empty p hp
  have track : ∀ b o, s.heap.get? b = some o → o.cls ≠ .none → (b ≠ a ∨ (K.lookup a).isNone = false) → lawHp K ts a ob (ns.map V.int) b = none := fun b o e hc hb => by
    unfold lawHp
    rw [if_neg (fun z => hc (by have q := (tabAt b z).symm.trans e; cases q; rfl)), if_neg (fun z => by
      rcases hb with q | q
      · exact q z.1
      · rw [z.2] at q; cases q)]
  generalize hH : lawHp K ts a ob (ns.map V.int) = H at track
  have held : HOk P w H s.heap := fun b u e => by
    rw [← hH] at e
    rcases lawHp_inv e with ⟨h1, rfl⟩ | ⟨_, rfl, _, rfl⟩
    · exact tabAt b h1
    · subst hob
      exact ⟨hscr, (by rw [List.length_map]; exact most), us, _, vals_ints hin, hscr⟩
  have script : SqL K H a (ns.map V.int) := by
    cases hk : K.lookup a with
    | none =>
      refine .inl (.inr ⟨ob, ?_⟩)
      rw [← hH]
      unfold lawHp
      rw [if_neg (fun z => by have q := (tabAt a z).symm.trans hscr; rw [← hob] at q; cases q), if_pos ⟨rfl, by rw [hk]; rfl⟩]
    | some o =>
      have q := (kin a o hk).symm.trans hscr
      cases q
      subst hob
      exact .inr ⟨_, us.toArray, _, hk, rfl, rfl, rfl, (by rw [List.size_toArray, lenU]; exact most), by simpa using vals_ints hin⟩
  have bse : ∀ {b : Addr} {o : Obj}, s.heap.get? b = some o → H b = none → (hidT s.heap H).get? b = some o := fun e n => hidT_get e n
  have aOb : ∀ {b : Addr} {o : Obj}, s.heap.get? b = some o → (∀ z n, o.data ≠ .seq z n) → b ≠ a := fun {b o} e h z => by
    subst z
    have q := e.symm.trans hscr
    cases q
    subst hob
    exact h _ _ rfl
  have nsd : ∀ {b : Addr} {m : Str → Option Value}, s.heap.Ns b m → (hidT s.heap H).Ns b m := fun {b m} ⟨o, es, ep, e, d, r⟩ =>
    ⟨o, es, ep, bse e (by
      have n1 : b ∉ ts := fun z => by have q := (tabAt b z).symm.trans e; cases q; cases d
      have n2 := aOb e fun z n q => by rw [d] at q; cases q
      rw [← hH]
      unfold lawHp
      rw [if_neg n1, if_neg fun z => n2 z.1]), d, r⟩
  have kinB : K.In (hidT s.heap H) := fun b o e => bse (kin b o e) (by
    rw [← hH]
    unfold lawHp
    rw [if_neg (fun z => by
      obtain ⟨p, hp, rfl⟩ := ofT b z
      rw [free p hp] at e
      cases e), if_neg (fun z => by
      obtain ⟨rfl, z⟩ := z
      rw [e] at z
      cases z)])
  have modB : L2.Mod K mg (hidT s.heap H) := ⟨kinB, nsd nsG, ⟨mb, nsd nsB, boot⟩, let ⟨mc, h1, h2⟩ := lim; ⟨mc, nsd h1, h2⟩⟩
  have keepB : ∀ {b : Addr} {o : Obj}, s.heap.get? b = some o → o.cls ≠ .none → (∀ z n, o.data ≠ .seq z n) → (hidT s.heap H).get? b = some o := fun e h1 h2 => bse e (track _ _ e h1 (.inl (aOb e h2)))
  have tabB : ∀ p ∈ tabs, LamX.TabB (hidT s.heap H) mg p.1 p.2 := fun p hp => by
    refine ⟨?_, ?_, fun z => ?_⟩
    · obtain ⟨o, vs, file, tf, flags, tg, inF, text, tt, e1, r1, r2, r3⟩ := code p hp
      exact ⟨o, vs, file, tf, flags, tg, inF, text, tt, keepB e1 (by rw [r1]; exact fun q => by cases q) (by rw [r2]; exact fun _ _ q => by cases q), r1, r2, r3⟩
    · obtain ⟨bm, o, b1, b2, b3, b4, b5, b6⟩ := mod
      refine ⟨bm, o, b1, b2, fun q => ?_, fun q => ?_, keepB b3 (by rw [b4]; exact fun q => by cases q) (by rw [b6]; exact fun _ _ q => by cases q), b4, b5, b6⟩
      · obtain ⟨o', es, ep, e, d, _⟩ := nsG
        rw [q, e] at b3
        cases b3
        rw [d] at b6
        cases b6
      · rw [q, empty p hp] at b3
        cases b3
        cases b4
    · obtain ⟨o', es, ep, e, d, _⟩ := nsG
      rw [z, empty p hp] at e
      cases e
      cases d
  have e0 : Env0 P w K mg (hidT s.heap H) callerA [] s H := ⟨rfl, modB, fun b o e => of_hidT e, Nat.le_of_eq (hidT_size _ _), trivial, fun b hb => absurd (show b ∈ ([] : List Addr) from hb) (by simp), held, .of_eq gens⟩
  have tabsH : ∀ p ∈ tabs, H p.2 = some (.tbl #[]) := fun p hp => by
    rw [← hH]
    exact lawHp_tab (inT p hp)
  refine codeAny_mono (run _ kinB (nsd nsG) tabB s H (.ref a) (.ref a) _ e0 (bind s (.ref a)) rfl (due H tabsH script)) fun r s' z => ?_
  cases r with
  | error e => exact (show False from z).elim
  | ok fl =>
    cases fl <;> first | exact False.elim z | skip
    obtain ⟨v, H', os, bare, un, held', rel, q⟩ := z
    have q : v = .bl true := q
    subst q
    obtain rfl : _ = Value.bool true := rel
    have stays : ∀ b o, b ∉ ts → s.heap.get? b = some o → s'.heap.get? b = some o := fun b o nb e => by
      cases hb : H b with
      | none => exact un.keep b o e hb (by intro z; exact absurd (show b ∈ ([] : List Addr) from z) (by simp)) (by simp)
      | some u =>
        have hb2 := hb
        rw [← hH] at hb2
        rcases lawHp_inv hb2 with ⟨h1, _⟩ | ⟨_, _, _, rfl⟩
        · exact absurd h1 nb
        · have k1 : s.heap.get? b = some ob := (held b _ hb).1
          have k2 : s'.heap.get? b = some ob := (held' b _ (un.frzs b _ _ hb)).1
          rw [k2, ← k1, e]
    refine ⟨rfl, ⟨fun b o e => ?_, fun b o e => ?_⟩, os, bare⟩
    all_goals by_cases hb : b ∈ ts
    · obtain ⟨p, hp, rfl⟩ := ofT b hb
      obtain ⟨more, z⟩ := un.tbls p.2 #[] (tabsH p hp)
      rw [empty p hp] at e
      cases e
      exact .inr (.inl ⟨((code p hp).tab (empty p hp)).isCodeTable, rfl, #[], more, rfl, by have q := held' p.2 _ z; rw [Array.empty_append] at q ⊢; exact q⟩)
    · exact .inl (stays b o hb e)
    · obtain ⟨p, hp, rfl⟩ := ofT b hb
      obtain ⟨more, z⟩ := un.tbls p.2 #[] (tabsH p hp)
      exact ⟨_, held' p.2 _ z⟩
    · exact ⟨o, stays b o hb e⟩
/-- what is known of the law's def at the head's heap -/
def LawFits (l : PySem.W.OpenLaw) (w : World) (K : PySem.W.Frag) (n : Nat) (x : Str) (mg : Str → Option Value) (fa : Addr) (h : Heap) : Prop :=
  ∃ (fd : FuncData) (tabs : List (Addr × Addr)) (sp : Sp), (∀ p ∈ tabs, h.get? p.2 = some { cls := .none, data := .fields #[] } ∧ K.lookup p.2 = none ∧ PySem.W.CodeHd h p.1 p.2) ∧ (∀ (s : Shared) (u : Value), BindsTo s fd ⟨[u], []⟩ [(x, u)]) ∧
    (∀ (H : Hp) (a : Addr) (ns : List Int), ns.length ≤ n → (∀ z ∈ ns, Builtin.Int.intBits z ≤ 1048576) → (∀ p ∈ tabs, H p.2 = some (.tbl #[])) → SqL K H a (ns.map V.int) → sp [.ref a] H (fun v _ => v = .bl true) E0) ∧
    ∀ base : Heap, K.In base → base.Ns mainGlobals mg → (∀ p ∈ tabs, LamX.TabB base mg p.1 p.2) → AtCaller l.prog w K mg base fa fd x sp
theorem walk_fits {l : PySem.W.OpenLaw} {n : Nat} {q : Program} {loose : List Str} {XP : (Str → Option Value) → Heap → Prop} {YP : World → Heap → Prop} {d : DefRec} {x : Str} (hn : l.most = some n) (hz : n ≤ sizeLine) (hdf : d.params.defaults = [])
    (F : ∀ (w : World) (mg : Str → Option Value) (fa : Addr) (h : Heap), YP w h → h.Ns mainGlobals mg → mg d.name = some (.ref fa) → ∃ K : PySem.W.Frag, K.In h ∧ LawFits l w K n x mg fa h) :
    PySem.W.WalkO q loose XP YP l.row.toRowW d [] (fun f vs => PySem.call f vs) := by
  refine Att.attach_callB hn hdf fun w s0 s mg mb fa ob pm cd doc a us ns G Y hob hd hcd hmg hscr hints hlen hbits hg => ?_
  obtain ⟨K, kin, fd, tabs, sp, ht, hb, hsp, hF⟩ := F w mg fa _ Y G.T.g hmg
  exact law_end kin G.T.g G.T.b G.T.builtins G.T.nolimit hg (fun p hp => (ht p hp).1) (fun p hp => (ht p hp).2.1) (fun p hp => (ht p hp).2.2) G.T.bmain hscr hints (Nat.le_trans hlen hz) hF hb fun H hH hS => hsp H a ns hlen hbits hH hS
end Eb

/-! A lambda handed to a def that calls it once; repr of data. -/
namespace Eb
open PySem PySem.Spec PyProof.Rows L2
/-- what the handing def makes of the lambda's reading -/
abbrev LTT := (XK → Hp → VK → Prop) → Hp → VK → Prop
/-- a() within the handing def, of n slots -/
def yAct (f c' : Addr) (q : Str) (tl : XK → Hp → VK → Prop) (n : Nat) (W : WX) : TE := fun σ H Q => ∃ E : XK, (∀ cls d σ' H', E cls d H' → σ'.length = n → W cls d σ' H') ∧ σ[0]? = some (some (.ref f)) ∧ H c' = some (LamX.CodeO c' q) ∧ tl E H Q
theorem ye_act {Z : Cx} {W : WX} {n : Nat} {f c' : Addr} {q : Str} {tl : XK → Hp → VK → Prop} {e : Expr}
    (act : ∀ E : XK, (∀ cls d σ' H', E cls d H' → σ'.length = n → W cls d σ' H') → PE Z e (fun σ H Q => σ[0]? = some (some (.ref f)) ∧ H c' = some (LamX.CodeO c' q) ∧ tl E H Q)) : PE Z e (yAct f c' q tl n W) :=
  ⟨fun pins s σ H Q I ⟨E, hW, h⟩ => (act E hW).run pins s σ H Q I h⟩
theorem takes_len {X : Cx} {W : WX} (tk : Takes X W) : Takes X (fun cls d σ H => σ.length = X.N.length → W cls d σ H) := fun u s' x => tk u s' (by
  obtain ⟨a, B, sI, pins, σ, H, cls, d, e, I, nb, up, sky, na, os, ag, w⟩ := x
  exact ⟨a, B, sI, pins, σ, H, cls, d, e, I, nb, up, sky, na, os, ag, w I.len⟩)
/-- what the head tells of errors (x, its field) -/
def XFs (K : PySem.W.Frag) (xs : List (Str × Str)) : Prop := ∀ p ∈ xs, isX K p.2 (He.ga K p.1) ∧ ExcC K (He.ga K p.1) ∧ PySem.W.kitOne K (.ref (He.ga K p.1)) (.ref (He.ga K "EdgeError")) = some true ∧ PySem.W.kitOne K (.ref (He.ga K p.1)) (.type "ValueError") = some true ∧
  ∀ q ∈ xs, PySem.W.exmOne K (.ref (He.ga K p.1)) (.ref (He.ga K q.1)) = some (decide (p.1 = q.1))
/-- the def x of the module calls the def that it is handed -/
structure Giv (X : Cx) (x a : Str) (TT : LTT) : Prop where
  ex : ∃ (g : Addr) (pg : Arguments) (bg : List Stmt) (sg : Scope) (dV kV doc pm cdv ct oc : Value) (an od : Option Addr) (osl : Array (Option Value)) (Ng : List Str),
    X.mg x = some (.ref g) ∧ PySem.W.keepIn X.K (.ref g) = true ∧ X.K.lookup g = some ⟨oc, od, .func (PySem.W.fnOf x x pg bg sg dV kV doc pm an cdv ct), osl⟩ ∧ PySem.W.codeIn X.K cdv x = true ∧
    L2.Binds X.K (PySem.W.fnOf x x pg bg sg dV kV doc pm an cdv ct) [a] [] ∧ FnScope Ng [a] sg ∧ Ng[0]? = some a ∧ Vis sg a ∧ ∀ q, LamX.GivesTo X Ng x sg g cdv bg a q TT
theorem giv_of {X : Cx} {x a : Str} {TT : LTT} {pg : Arguments} {bg : List Stmt} {sg : Scope} {g : Addr} {fd : FuncData} {Ng : List Str} (F : FunD X.K x x pg bg sg [] [] g fd) (hm : X.mg x = some (.ref g)) (S : FnScope Ng [a] sg) (h0 : Ng[0]? = some a) (hv : Vis sg a)
    (hb : ∀ (kV doc pm : Value) (an : Option Addr) (cdv ct : Value) (us : List Value), us.length = 1 → bindArgs (PySem.W.fnOf x x pg bg sg .none kV doc pm an cdv ct) ⟨us, []⟩ = pure ([a].zip us))
    (hG : ∀ (cdv : Value) (q : Str), LamX.GivesTo X Ng x sg g cdv bg a q TT) : Giv X x a TT := by
  have b := F.bindsN (ps := [a]) hb
  obtain ⟨oc, od, dV, kV, doc, pm, an, cdv, ct, osl, rfl, lk, hcd, _, _⟩ := F.ex
  exact ⟨g, pg, bg, sg, dV, kV, doc, pm, cdv, ct, oc, an, od, osl, Ng, hm, F.kp, lk, hcd, b, S, h0, hv, hG cdv⟩
abbrev yLam (T : List (Addr × Str)) (TT : LTT) (t : XK → TE) : TE := LamX.tLam T TT t
/-- x(lambda: body) -/
theorem ye_lam {X : Cx} {T : List (Addr × Str)} {TT : LTT} {x a : Str} {c P : Addr} {k : Nat} {params : Arguments} {body : Expr} {scope : Scope} {t : XK → TE} {p lpos pos : Pos} (G : Giv X x a TT) (hg : Gl X x)
    (TB : LamX.TabB X.base X.mg c P) (hcode : X.env.code = .ref c) (hT : (P, X.env.qual ++ "<lambda>") ∈ T) (hu : ∀ p ∈ T, p.1 = P → p.2 = X.env.qual ++ "<lambda>") (hr : Room (k + 2) X.A) (L : LamX.LamS X.env.scope scope) (hdef : defaultsOf params X.env = ([], []))
    (hbind : ∀ (q : Str) (cl : List (Str × Addr)) (pm cv ctv : Value), bindArgs (PySem.W.kla_fn "<lambda>" q params body scope cl pm cv ctv) ⟨[], []⟩ = pure [])
    (hbody : ∀ (A : Around) (outer : List Env) (s : Shared) (H : Hp) (E : XK) (f c' : Addr), Room k (A.deeper (LamX.lamEnv X scope s.heap.objs.size f c')) → PE (LamX.lamCx X A outer s H E scope f c') body (t E))
    (hdb : (x == ("__debug__" : Str)) = false := by decide) (hd : (a == ("__debug__" : Str)) = false := by decide) (hcd : (a == ("__classdict__" : Str)) = false := by decide) :
    PE X (.Call (.Name x p) [.Lambda params body scope lpos] [] pos) (yLam T TT t) := by
  obtain ⟨g, pg, bg, sg, dV, kV, doc, pm, cdv, ct, oc, an, od, osl, Ng, hm, hk, lk, hcg, hb, Sg, hNg, hva, hG⟩ := G.ex
  exact LamX.pe_lamcall hg hm hk lk hcg hb Sg hNg hva (hG _) TB hcode hT hu hr L hdef hbind hbody hdb hd hcd
/-- a def that makes lambdas -/
theorem okT {P : Program} {w : World} {K : PySem.W.Frag} {mg : Str → Option Value} {base : Heap} {x qual : Str} {pd : He.Defn} {params : Arguments} {body : List Stmt} {scope : Scope} {fd : FuncData} {CX : CXT} {N ps : List Str} {k : Nat} {sp : Sp}
    (F : FunD K x qual params body scope [] [] (He.fAd K pd) fd) (S : FnScope N ps scope) (len : ∀ vs H Q E, sp vs H Q E → vs.length = ps.length)
    (hbody : ∀ (A : Around) (outer : List Env) (s : Shared) (H : Hp) (vs : List V) (Q : VK) (E : XK), Room k (A.deeper (envOfC qual scope s.heap.objs.size (He.fAd K pd) (.ref (He.cT K pd).1))) → sp vs H Q E →
      ∃ t, PSs (cxOf CX P w K mg base N qual scope (He.fAd K pd) (.ref (He.cT K pd).1) A outer s H E) body t ∧ t { nx := fun _ H' => Q .non H', rt := Q } (start N vs) H) : FnOk P w K mg base CX (k + 1) (He.fAd K pd) fd ps sp := by
  obtain ⟨oc, od, dV, kV, doc, pm, an, cdv, ct, osl, rfl, lk, hcd, _, _⟩ := F.ex
  obtain ⟨c, rfl⟩ : ∃ c, cdv = .ref c := by
    unfold PySem.W.codeIn at hcd
    split at hcd
    · exact ⟨_, rfl⟩
    · cases hcd
  have e : c = (He.cT K pd).1 := (He.codeOf_eq lk rfl).symm
  subst e
  exact fn_of lk hcd S len fun A outer s H vs Q E hr hsp => hbody A outer s H vs Q E hr hsp
/-- the law's def, at its caller -/
theorem atCaller {P : Program} {w : World} {K : PySem.W.Frag} {mg : Str → Option Value} {base : Heap} {x qual a : Str} {pd : He.Defn} {params : Arguments} {body : List Stmt} {scope : Scope} {fd : FuncData} {N : List Str} {k : Nat} {sp : Sp}
    (F : FunD K x qual params body scope [] [] (He.fAd K pd) fd) (S : FnScope N [a] scope) (hr : Room (k + 1) callerA)
    (hbody : ∀ (s : Shared) (H : Hp) (v : V) (Q : VK), Room k (callerA.deeper (envOfC qual scope s.heap.objs.size (He.fAd K pd) (.ref (He.cT K pd).1))) → sp [v] H Q E0 →
      ∃ t, PSs (cxOf CX0 P w K mg base N qual scope (He.fAd K pd) (.ref (He.cT K pd).1) callerA [] s H E0) body t ∧ t { nx := fun _ H' => Q .non H', rt := Q } (start N [v]) H) : AtCaller P w K mg base (He.fAd K pd) fd a sp := by
  obtain ⟨oc, od, dV, kV, doc, pm, an, cdv, ct, osl, rfl, lk, hcd, _, _⟩ := F.ex
  obtain ⟨c, rfl⟩ : ∃ c, cdv = .ref c := by
    unfold PySem.W.codeIn at hcd
    split at hcd
    · exact ⟨_, rfl⟩
    · cases hcd
  have e : c = (He.cT K pd).1 := (He.codeOf_eq lk rfl).symm
  subst e
  intro s H u v Q e0 hb rv h
  exact LamX.run_ofS (ps := [a]) (us := [u]) (vs := [v]) lk hcd S hr e0 hb (.cons rv .nil) rfl fun hr' => hbody s H v Q hr' h
/-! ### repr of data -/
def zReprD (K : PySem.W.Frag) : List V → Hp → VK → Prop := fun xs H Q => match xs with
  | [.ref a] => ∃ d, Dp K H (.ref a) d ∧ d.showable = true ∧ d.hasDict = false ∧ d.depth ≤ 60 ∧ d.shown.length ≤ sizeLine ∧ Q (.str d.shown) H
  | _ => False
theorem cr_reprD {X : Cx} (hg : X.A.guards = some []) (hu : X.A.units + 64 < cLine) : CallR X (.builtin "repr") (zReprD X.K) := by
  intro pins s σ H xs us Q I r h
  unfold zReprD at h
  split at h
  · obtain ⟨d, hd, h1, h2, h3, h4, q⟩ := h
    obtain ⟨u, rfl, r1⟩ := vals1 r
    cases r1
    obtain ⟨as, rd⟩ := Dp.reads I d _ _ hd rfl
    refine repr_of_reads' (h₀ := s.heap) rd h1 (fun z => by rw [h2] at z; cases z) hg (by omega) (fun _ _ e => e) (fun h' t tk hk => ?_) h4
    exact ⟨.str _, H, I.kept hk, ⟨_, rfl⟩, q⟩
  · exact h.elim
end Eb

/-! The ends: from the head's facts to what the texts ask for. -/
namespace Eb
open PySem PySem.Spec PyProof.Rows L2
section
variable {P : Program} {w : World} {K : PySem.W.Frag} {mg : Str → Option Value} {base : Heap} {k : Nat} {ps : List Str} {sp : Sp} {fd : FuncData} {params : Arguments} {body : List Stmt} {scope : Scope}
theorem cal_of {x : Str} (F : FunD K x x params body scope [] [] (He.fAd K (x, none)) fd) (g : mg x = some (.ref (He.ga K x))) (ok : FnOk P w K mg base (L2.CX P w) k (He.fAd K (x, none)) fd ps sp)
    (hb : ∀ (kV doc pm : Value) (an : Option Addr) (cdv ct : Value) (us : List Value), us.length = ps.length → bindArgs (PySem.W.fnOf x x params body scope .none kV doc pm an cdv ct) ⟨us, []⟩ = pure (ps.zip us)) : Cal P w K mg base x k ps sp := ⟨_, _, ok, g, F.kp, F.bindsN hb⟩
theorem om_of {x qual : Str} (F : FunD K "__init__" qual params body scope [] [] (He.fAd K (x, some "__init__")) fd) (c : Cls K (He.ga K x)) (m : L2.Mk K (He.ga K x) (He.ma K (He.ga K x) "__init__")) (g : mg x = some (.ref (He.ga K x)))
    (ok : FnOk P w K mg base (L2.CX P w) k (He.fAd K (x, some "__init__")) fd ps sp) (hb : ∀ (kV doc pm : Value) (an : Option Addr) (cdv ct : Value) (us : List Value), us.length = ps.length → bindArgs (PySem.W.fnOf "__init__" qual params body scope .none kV doc pm an cdv ct) ⟨us, []⟩ = pure (ps.zip us)) :
    OM P w K mg base x k ps sp := ⟨c, _, fd, m, ok, g, F.bindsN hb⟩
theorem ome_of {x m qual : Str} (F : FunD K m qual params body scope [] [] (He.fAd K (x, some m)) fd) (c : Cls K (He.ga K x)) (me : Meth K (He.ga K x) m (He.ma K (He.ga K x) m))
    (ok : FnOk P w K mg base (L2.CX P w) k (He.fAd K (x, some m)) fd ps sp) (hb : ∀ (kV doc pm : Value) (an : Option Addr) (cdv ct : Value) (us : List Value), us.length = ps.length → bindArgs (PySem.W.fnOf m qual params body scope .none kV doc pm an cdv ct) ⟨us, []⟩ = pure (ps.zip us)) :
    OMe P w K mg base x m k ps sp := ⟨c, _, fd, me, ok, F.bindsN hb⟩
end
theorem k_int {mg : Str → Option Value} {x : Str} {i : Int} (h : ∃ t, mg x = some (.int i t)) : ∃ u, mg x = some u ∧ RelV (.int i) u := by
  obtain ⟨t, e⟩ := h
  exact ⟨_, e, t, rfl⟩
theorem k_str {mg : Str → Option Value} {x z : Str} (h : ∃ t, mg x = some (.str z t)) : ∃ u, mg x = some u ∧ RelV (.str z) u := by
  obtain ⟨t, e⟩ := h
  exact ⟨_, e, t, rfl⟩
theorem k_ref {mg : Str → Option Value} {x : Str} {a : Addr} (h : mg x = some (.ref a)) : ∃ u, mg x = some u ∧ RelV (.ref a) u := ⟨_, h, rfl⟩
/-! ### facts as tests -/
def noNeB (K : PySem.W.Frag) (x : Str) : Bool := eqB (PySem.W.mroIn K (He.ga K x) (.type "object")) true && He.eqO (PySem.W.findIn K (.ref (He.ga K x)) "__ne__") (some (some (.builtin "object.__ne__")))
theorem noNeB_ok {K : PySem.W.Frag} {x : Str} (h : noNeB K x = true) : NoNe K (He.ga K x) := by
  obtain ⟨h1, h2⟩ := He.ba h
  exact ⟨of_decide_eq_true h1, He.eqO_ok h2⟩
def getB (K : PySem.W.Frag) (x : Str) : Bool := match PySem.W.findIn K (.ref (He.ga K x)) "__getitem__" with
  | some (some (.ref f)) => PySem.W.fnIn K f
  | _ => false
theorem getB_ok {K : PySem.W.Frag} {x : Str} (h : getB K x = true) : ∀ f, Meth K (He.ga K x) "__getitem__" f → PySem.W.fnIn K f = true := fun f m => by
  unfold getB at h
  rw [m.at_] at h
  exact h
def plainB (K : PySem.W.Frag) (x : Str) : Bool := He.eqO (PySem.W.findIn K (.ref (He.ga K x)) "__class__") (some (some (.builtin "object.__class__"))) &&
  (He.eqO (PySem.W.specialIn K (.builtin "object.__class__") "__get__") (some (some (.builtin "getset_descriptor.__get__"))) && (eqB (PySem.W.takesIn K (.builtin "object.__class__")) true && eqB (PySem.W.mroIn K (He.ga K x) (.type "object")) true))
theorem plainB_ok {K : PySem.W.Frag} {x : Str} (h : plainB K x = true) (c : Cls K (He.ga K x)) : PlainC K (He.ga K x) := by
  obtain ⟨h1, h⟩ := He.ba h
  obtain ⟨h2, h⟩ := He.ba h
  obtain ⟨h3, h4⟩ := He.ba h
  exact ⟨c, He.eqO_ok h1, He.eqO_ok h2, of_decide_eq_true h3, of_decide_eq_true h4⟩
def kitB (K : PySem.W.Frag) (a b : Value) (r : Bool) : Bool := eqB (PySem.W.kitOne K a b) r
def xfsB (K : PySem.W.Frag) (xs : List (Str × Str)) : Bool := xs.all fun p => kitB K (.ref (He.ga K p.1)) (.ref (He.ga K "EdgeError")) true && (kitB K (.ref (He.ga K p.1)) (.type "ValueError") true &&
  (He.eqO (PySem.W.findIn K (.ref (He.ga K p.1)) p.2) (some none) && xs.all fun q => eqB (PySem.W.exmOne K (.ref (He.ga K p.1)) (.ref (He.ga K q.1))) (decide (p.1 = q.1))))
theorem xfsB_ok {K : PySem.W.Frag} {xs : List (Str × Str)} (h : xfsB K xs = true) (ha : ∀ p ∈ xs, XfC K (He.ga K p.1) ∧ ExcC K (He.ga K p.1)) : XFs K xs := fun p hp => by
  obtain ⟨h1, h⟩ := He.ba (List.all_eq_true.mp h p hp)
  obtain ⟨h2, h⟩ := He.ba h
  obtain ⟨h3, h4⟩ := He.ba h
  exact ⟨⟨(ha p hp).1, He.eqO_ok h3⟩, (ha p hp).2, of_decide_eq_true h1, of_decide_eq_true h2, fun q hq => of_decide_eq_true (List.all_eq_true.mp h4 q hq)⟩
/-- a list of tests -/
theorem exL_ok {K : PySem.W.Frag} {l : List (PySem.W.Frag → Bool)} (h : (l.all fun t => t K) = true) (i : Nat) {t : PySem.W.Frag → Bool} (e : l[i]? = some t := by rfl) : t K = true := List.all_eq_true.mp h t (List.mem_of_getElem? e)
end Eb

/-! Further rules: slices by a step of 1 or -1, index, insert, get, comprehensions over a dict, sorted, list(range). -/
namespace Eb
open PySem PySem.Spec PyProof.Rows L2
section
variable {X : Cx}
/-! ### xs[::b] -/
def yStepL (K : PySem.W.Frag) (te tb : TE) : TE := fun σ H Q => te σ H fun x H1 => tb σ H1 fun y H2 => match x, y with
  | .ref a, .int i => ∃ xs, SqL K H2 a xs ∧ (i = 1 ∨ i = -1) ∧ ∀ p, H2 p = none → Q (.ref p) (upd H2 p (.lst (if i = 1 then xs else xs.reverse)))
  | _, _ => False
theorem pick_one (its : Array Value) : slicePick its none none (some 1) = slicePick its none none none := rfl
theorem ye_stepL {e b : Expr} {te tb : TE} {p3 pos : Pos} (he : PE X e te) (hb : PE X b tb) : PE X (.Subscript e (.Slice none none (some b) p3) pos) (yStepL X.K te tb) := by
  refine ⟨fun pins s σ H Q I h => Subscript_ (thn (he.run pins s σ H _ I h) fun v s1 hv => ?_)⟩
  obtain ⟨x, H1, I1, rx, q⟩ := hv
  refine wpAny_Slice (thn (po_none.run pins s1 σ H1 (fun o H2 => o = none ∧ H2 = H1) I1 ⟨rfl, rfl⟩) fun vl s2 hl => ?_)
  obtain ⟨o1, G1, I2, pl, e1, e2⟩ := hl
  subst e1 e2
  refine thn (po_none.run pins s2 σ G1 (fun o H3 => o = none ∧ H3 = G1) I2 ⟨rfl, rfl⟩) fun vu s3 hu => ?_
  obtain ⟨o2, G2, I3, pu, e1, e2⟩ := hu
  subst e1 e2
  refine thn ((po_some (PE.up hb)).run pins s3 σ G2 (fun o H4 => ∃ i, o = some i ∧ match x with
    | .ref a => ∃ xs, SqL X.K H4 a xs ∧ (i = 1 ∨ i = -1) ∧ ∀ p, H4 p = none → Q (.ref p) (upd H4 p (.lst (if i = 1 then xs else xs.reverse)))
    | _ => False) I3 ⟨_, q, fun y H2 q2 => ?_⟩) fun vs s4 hs => ?_
  · cases x <;> cases y <;> first | exact False.elim q2 | skip
    exact ⟨_, rfl, _, rfl, q2⟩
  obtain ⟨o3, G3, I4, ps, i, e3, q2⟩ := hs
  cases x <;> first | exact False.elim q2 | skip
  rename_i a
  obtain ⟨xs, hx, hi, q2⟩ := q2
  subst e3
  cases rx
  have I5 : Inv X pins σ G3 { s4 with heap := s4.heap.push { cls := .type "slice", data := .fields #[vl, vu, vs] } } := I4.kept (t' := s4.toks) fun b ob q => Heap.get?_push_of_some _ q
  obtain ⟨its, r, ht, hz⟩ := I5.list hx
  have hlen := r.length
  show wpAny (model X.prog X.w) X.A (subscriptTail e (.Slice none none (some b) p3) (.ref a) (.ref s4.heap.objs.size)) _ X.xe _
  refine tail_any (ops := [.ref a, .ref s4.heap.objs.size]) ht.isList.typeIs (PySem.slot_list_getitem.lookup) ?_ (by with_unfolding_all rfl)
  refine wpAny_getItem_list_slice ht.isList (Heap.IsSliceOf.new _ vl vu vs) pl pu ps (by rcases hi with rfl | rfl <;> decide) ?_ (by rw [List.size_toArray]; omega)
  rcases hi with rfl | rfl
  · rw [pick_one, slicePick_cut]
    have ec : ((its.drop (HT.sIx its.length 0 none)).take (HT.sIx its.length its.length none - HT.sIx its.length 0 none)) = its := by
      rw [HT.sIx_none, HT.sIx_none, List.drop_zero, Nat.sub_zero, List.take_length]
    first
      | rw [ec]
      | simp only [ec]
    exact ⟨.ref _, _, I5.laid (t' := s4.toks) (o := .lst xs) (fun b ob q => Heap.get?_push_of_some _ q) (Nat.le_refl _) ⟨hz, _, 0, r, Heap.get?_push_size _ rfl⟩, rfl, q2 _ (I5.hok.fresh (Nat.le_refl _))⟩
  · rw [PySem.W.krv_pick]
    exact ⟨.ref _, _, I5.laid (t' := s4.toks) (o := .lst xs.reverse) (fun b ob q => Heap.get?_push_of_some _ q) (Nat.le_refl _) ⟨by rw [List.length_reverse]; exact hz, _, 0, r.reverse, Heap.get?_push_size _ rfl⟩, rfl, q2 _ (I5.hok.fresh (Nat.le_refl _))⟩
/-! ### index -/
def zIdx (K : PySem.W.Frag) : V → List V → Hp → VK → Prop := fun x vs H Q => match x, vs with
  | .ref a, [y] => ∃ ys j, SqL K H a ys ∧ flatV y = true ∧ ys.all flatV = true ∧ ys[j]? = some y ∧ L2.eqV y y = true ∧ (∀ m z, m < j → ys[m]? = some z → L2.eqV z y = false) ∧ Q (.int (j : Nat)) H
  | _, _ => False
theorem mt_zIdx : MtR X "list.index" (zIdx X.K) := MtR.imp mt_index fun x xs H Q q => by
  unfold zIdx at q
  split at q
  · obtain ⟨ys, j, h1, h2, h3, h4, h5, h6, q⟩ := q
    exact ⟨_, ys, _, j, _, rfl, rfl, h1, h2, h3, h4, h5, h6, q⟩
  · exact q.elim
def zTIdx (K : PySem.W.Frag) : V → List V → Hp → VK → Prop := fun x vs H Q => match x, vs with
  | .ref p, [.str z] => ∃ (ys : List Str) (j : Nat), SqT K H p (ys.map V.str) ∧ ys[j]? = some z ∧ (∀ m, m < j → ys[m]? ≠ some z) ∧ Q (.int (j : Nat)) H
  | _, _ => False
theorem mt_zTIdx : MtR X "tuple.index" (zTIdx X.K) := MtR.imp mt_tup_index fun x xs H Q q => by
  unfold zTIdx at q
  split at q
  · obtain ⟨ys, j, h1, h2, h3, q⟩ := q
    exact ⟨_, ys, _, j, rfl, rfl, h1, h2, h3, q⟩
  · exact q.elim
/-! ### insert -/
def zIns : V → List V → Hp → VK → Prop := fun x vs H Q => match x, vs with
  | .ref l, [.int i, y] => ∃ xs, H l = some (.lst xs) ∧ xs.length < sizeLine ∧ 0 ≤ i ∧ i < 2 ^ 63 ∧ Q .non (upd H l (.lst (xs.take i.toNat ++ [y] ++ xs.drop i.toNat)))
  | _, _ => False
theorem mt_zIns : MtR X "list.insert" zIns := MtR.imp mt_insert fun x xs H Q q => by
  unfold zIns at q
  split at q
  · obtain ⟨ys, h1, h2, h3, h4, q⟩ := q
    exact ⟨_, ys, _, _, rfl, rfl, h1, h2, h3, h4, q⟩
  · exact q.elim
/-! ### d.get(k) -/
def yDGet1 (td ty : TE) : TE := fun σ H Q => td σ H fun x H1 => match x with
  | .ref a => IsD H1 a ∧ ty σ H1 fun y H2 => match y with
    | .str k => ∃ kvs, Rd H2 a (.dK kvs) ∧ Q ((valV kvs (Sum.inr k)).getD .non) H2
    | .int k => ∃ kvs, Rd H2 a (.dK kvs) ∧ Q ((valV kvs (Sum.inl k)).getD .non) H2
    | _ => False
  | _ => False
theorem ye_dget1 {o e : Expr} {td ty : TE} {apos cpos : Pos} (hu : X.A.units + 1 < cLine) (m : M1 X o "get" apos e cpos) (ho : PE X o td) (he : PE X e ty) : PE X (.Call (.Attribute o "get" apos) [e] [] cpos) (yDGet1 td ty) :=
  PE.imp (pe_dget1 hu (PE.up ho) (PE.up he) m) fun σ H Q q => ⟨_, q, fun x H1 q1 => by
    cases x <;> first | exact False.elim q1 | skip
    obtain ⟨h1, q2⟩ := q1
    refine ⟨_, rfl, h1, _, q2, fun y H2 q3 => ?_⟩
    cases y <;> first | exact False.elim q3 | skip
    · obtain ⟨kvs, h2, q4⟩ := q3
      exact ⟨_, .inl ⟨kvs, Sum.inl _, h2, rfl, rfl⟩, q4⟩
    · obtain ⟨kvs, h2, q4⟩ := q3
      exact ⟨_, .inl ⟨kvs, Sum.inr _, h2, rfl, rfl⟩, q4⟩⟩
/-! ### sorted(list of ints) -/
def zSortI (K : PySem.W.Frag) : List V → Hp → VK → Prop := fun xs H Q => match xs with
  | [.ref a] => ∃ ns : List Int, SqL K H a (ns.map V.int) ∧ ∀ (ms : List Int) (p : Addr), ms.Perm ns → ms.Pairwise (· ≤ ·) → H p = none → Q (.ref p) (upd H p (.lst (ms.map V.int)))
  | _ => False
theorem cr_zSortI : CallR X (.builtin "sorted") (zSortI X.K) := CallR.imp cr_sortedI fun xs H Q q => by
  unfold zSortI at q
  split at q
  · obtain ⟨ns, h1, q⟩ := q
    exact ⟨_, ns, rfl, h1, q⟩
  · exact q.elim
/-! ### list(range(..)) -/
def yLRng (ta : TE) : TE := fun σ H Q => ta σ H fun x H1 => match x with
  | .int n => RgOk 0 n ∧ ∀ q, H1 q = none → Q (.ref q) (upd H1 q (.lst (rgV 0 n)))
  | _ => False
theorem ye_lrng {e : Expr} {ta : TE} {p p2 pos pos2 : Pos} (hc : X.calm = true) (hg : Gl X "list") (hm : X.mg "list" = none) (hg2 : Gl X "range") (hm2 : X.mg "range" = none) (he : PE X e ta) (na : starEach [e] X.env = (false, eval e X.env) :: starEach [] X.env := by rfl) (nr : starEach [.Call (.Name "range" p2) [e] [] pos2] X.env = (false, eval (.Call (.Name "range" p2) [e] [] pos2) X.env) :: starEach [] X.env := by rfl) : PE X (.Call (.Name "list" p) [.Call (.Name "range" p2) [e] [] pos2] [] pos) (yLRng ta) :=
  PE.imp (pe_listRg hc hg hm (prg_1 hg2 hm2 (PE.up he) na) nr) fun σ H Q q => ⟨_, q, fun x H1 q1 => by
    cases x <;> first | exact False.elim q1 | skip
    exact ⟨_, rfl, q1⟩⟩
def yLRng2 (ta tb : TE) : TE := fun σ H Q => ta σ H fun x H1 => tb σ H1 fun y H2 => match x, y with
  | .int i, .int j => RgOk i j ∧ ∀ q, H2 q = none → Q (.ref q) (upd H2 q (.lst (rgV i j)))
  | _, _ => False
theorem ye_lrng2 {e e2 : Expr} {ta tb : TE} {p p2 pos pos2 : Pos} (hc : X.calm = true) (hg : Gl X "list") (hm : X.mg "list" = none) (hg2 : Gl X "range") (hm2 : X.mg "range" = none) (he : PE X e ta) (he2 : PE X e2 tb) (na : starEach [e, e2] X.env = (false, eval e X.env) :: starEach [e2] X.env := by rfl) (nb : starEach [e2] X.env = (false, eval e2 X.env) :: starEach [] X.env := by rfl) (hp : (backTo pos2 (starEach [e2] X.env)).any (·.1) = false := by rfl) (nr : starEach [.Call (.Name "range" p2) [e, e2] [] pos2] X.env = (false, eval (.Call (.Name "range" p2) [e, e2] [] pos2) X.env) :: starEach [] X.env := by rfl) : PE X (.Call (.Name "list" p) [.Call (.Name "range" p2) [e, e2] [] pos2] [] pos) (yLRng2 ta tb) :=
  PE.imp (pe_listRg hc hg hm (prg_2 hg2 hm2 (PE.up he) (PE.up he2) na nb hp) nr) fun σ H Q q => ⟨_, q, fun x H1 q1 => ⟨_, q1, fun y H2 q2 => by
    cases x <;> cases y <;> first | exact False.elim q2 | skip
    exact ⟨_, _, rfl, rfl, q2⟩⟩⟩
/-! ### {k: v for .. in d if ..} -/
def yDcK (td : TE) (g : TG) (tt : TT) (tk tv : TE) (vs : List Nat) : TE := fun σ H Q => ∃ d kvs, H d = some (.dK kvs) ∧ ∀ od, td σ (upd H d (.frz od (.dK kvs))) fun x H1 => x = .ref d ∧ H1 d = some (.frz od (.dK kvs)) ∧ ∀ D, H1 D = none →
  ∃ Pv : Nat → List (Key × V) → Hp → Prop, Pv 0 [] (upd H1 D (.dK [])) ∧ (∀ i acc G, i ≤ kvs.length → Pv i acc G → G d = some (.frz od (.dK kvs)) ∧ G D = some (.dK acc) ∧ acc.length < sizeLine) ∧
  (∀ i k v acc G, kvs[i]? = some (k, v) → Pv i acc G → g (kV k) (wipe σ vs) G fun σ2 G2 => wipe σ2 vs = wipe σ vs ∧ tt σ2 G2 fun b G3 =>
    yBr b (tk σ2 G3 fun y G4 => tv σ2 G4 fun z G5 => ∃ k', y = kV k' ∧ G5 D = some (.dK acc) ∧ Pv (i + 1) (putK acc k' z) (upd G5 D (.dK (putK acc k' z)))) (Pv (i + 1) acc G3)) ∧
  ∀ acc G, Pv kvs.length acc G → Q (.ref D) (upd G d (.dK kvs))
theorem ye_dcK {kx vx tg iter : Expr} {ifs : List Expr} {scope : Scope} {own : List (Str × Nat)} {pos : Pos} {td : TE} {g : TG} {tt : TT} {tk tv : TE} (hc : X.calm = true) (hN : X.N.Nodup) (hi : PE X iter td) (ok : BlkOk X.N X.env.scope scope own)
    (hg : ∀ (s : Shared) (H : Hp) (C : Addr) (cl : List (Str × Addr)) (fp : List Addr), PG (X.blk s H scope (compEnvC scope cl C X.env) fp) tg g) (ht : ∀ (s : Shared) (H : Hp) (C : Addr) (cl : List (Str × Addr)) (fp : List Addr), PTs (X.blk s H scope (compEnvC scope cl C X.env) fp) ifs tt)
    (hk : ∀ (s : Shared) (H : Hp) (C : Addr) (cl : List (Str × Addr)) (fp : List Addr), PE (X.blk s H scope (compEnvC scope cl C X.env) fp) kx tk)
    (he : ∀ (s : Shared) (H : Hp) (C : Addr) (cl : List (Str × Addr)) (fp : List Addr), PE (X.blk s H scope (compEnvC scope cl C X.env) fp) vx tv) (hs : ∀ x, foldedSetIterable iter X.env x = pure x := by intro _; rfl) :
    PE X (.DictComp kx vx [⟨tg, iter, ifs, 0⟩] scope pos) (yDcK td g tt tk tv (own.map (·.2))) := by
  refine PE.imp (pe_lock (pe_dc hc hN (pi_keys (PE.up hi)) ok (fun s H C cl fp => PG.up (hg s H C cl fp)) (fun s H C cl fp => PTs.up (ht s H C cl fp)) (fun s H C cl fp => PE.up (hk s H C cl fp)) (fun s H C cl fp => PE.up (he s H C cl fp)) hs)) fun σ H Q q => ?_
  obtain ⟨d, kvs, hd, q⟩ := q
  refine ⟨d, .dK kvs, hd, trivial, fun od => ⟨_, q od, fun x H1 q1 => ?_⟩⟩
  obtain ⟨rfl, hf, q1⟩ := q1
  refine ⟨d, od, rfl, .inl ⟨kvs, hf, fun D hD => ?_⟩⟩
  obtain ⟨Pv, h0, hG, ht', hq⟩ := q1 D hD
  refine ⟨fun i m G => m = kvs.length - i ∧ i ≤ kvs.length ∧ ∃ acc, Pv i acc G, ⟨kvs.length, rfl, Nat.zero_le _, [], h0⟩, ?_⟩
  rintro i m G ⟨rfl, hi, acc, p⟩
  obtain ⟨g1, g2, g3⟩ := hG i acc G hi p
  by_cases hl : i < kvs.length
  · refine .inr ⟨?_, fun G' => ∃ acc, Pv (i + 1) acc G', fun G' ⟨acc', p'⟩ => ⟨kvs.length - (i + 1), by omega, rfl, hl, acc', p'⟩, fun x G' y => ?_⟩
    · exact (walk_keys (d := d) (o := od) (kvs := kvs)).goes i G hl g1
    · obtain ⟨rfl, k, v, hkv, rfl⟩ := (walk_keys (d := d) (o := od) (kvs := kvs)).yields i G x G' hl g1 y
      refine ⟨_, ht' i k v acc G' hkv p, fun σ2 G2 ⟨e, q⟩ => ⟨e, _, q, fun b G3 q => ?_⟩⟩
      rw [yBr_def] at q
      cases b with
      | true => exact ⟨_, q, fun y2 G4 q => ⟨_, q, fun z G5 ⟨k', ey, gD, p'⟩ => ⟨acc, k', ey, gD, g3, _, p'⟩⟩⟩
      | false => exact ⟨acc, q⟩
  · have e : i = kvs.length := by omega
    subst e
    exact .inl ⟨(walk_keys (d := d) (o := od) (kvs := kvs)).stops G g1, g1, hq acc G p⟩
end
/-! ### ~o -/
def zInvO (C : Addr) (sp : Sp) : V → Hp → VK → Prop := fun x H Q => match x with
  | .ref a => ∃ dx fs, H a = some (.ins C dx fs) ∧ sp [.ref a] H Q E0
  | _ => False
theorem un_zInvO {X : Cx} {CN : Str} {k : Nat} {ps : List Str} {sp : Sp} (M : OMe X.prog X.w X.K X.mg X.base CN "__invert__" k ps sp) (hr : Room k X.A) : UnR X (unaryOp .Invert) (zInvO (He.ga X.K CN) sp) := by
  obtain ⟨f, fd, h1, h2, h3⟩ := M.ex
  intro pins s σ H x v Q I rx h
  unfold zInvO at h
  split at h
  · obtain ⟨dx, fs, e, q⟩ := h
    cases rx
    obtain ⟨mA, J, _⟩ := ins_get I.hok e
    obtain ⟨od, J, _⟩ := J.look
    obtain ⟨m, hF⟩ := I.fr
    exact PySem.W.ksp_inv hF I.ok.mod.kin J h1.at_ h1.fn (run_at (vs := [.ref _]) h2 hr rfl h3 (passAt tk0 σ) I (.cons rfl .nil) q)
  · exact h.elim
end Eb

/-! sorted(set(list of ints)), text[::-1], classmethods, making by a name that holds the class. -/
namespace Eb
open PySem PySem.Spec PyProof.Rows L2
/-! ### set(xs), the order's side kept -/
abbrev setO (w : World) : Obj := ⟨.type "set", none, .set #[] 0 (.fresh 0 0 (!w.params.followText "set-order")), #[]⟩
section
variable {P : Program} {w : World} {A : Around} {E : Value → Shared → Prop} {s : Shared}
theorem set_ofL {l : Addr} {its : Array Value} (ns : List Int) {Q : Value → Shared → Prop} (hh : A.handled = none) (lst : s.heap.IsList l its) (are : IntsAre its.toList ns) (room : ns.length + 1 < scanBound)
    (q : ∀ (g : Heap) (tk c : Nat), SetR w g s.heap.objs.size (fun j => decide (j ∈ ns)) c → c ≤ ns.length → (∀ b o, s.heap.get? b = some o → g.get? b = some o) → Q (.ref s.heap.objs.size) { s with heap := g, toks := tk }) :
    wpAny (model P w) A (call (.type "set") [.ref l]) Q E s := by
  have sz : its.size = ns.length := by
    rw [← are.length, Array.length_toList]
  obtain ⟨c, tl, m1⟩ := F.called_set.mro
  have m2 := F.called_set.made
  have m3 := F.called_set.sub
  have m4 := F.called_set.notType
  have m5 := F.called_set.canCreate
  have m6 := F.typeCall_set_1 (.ref l)
  refine wpAny_call (codeAny_of_tree ?_)
  show wpAny _ _ (callAny (.type "set") _) _ _ _
  refine wpAny_pure ⟨Code.quiet_builtin _ (by decide +kernel), codeAny_builtin F.entry_type_call ?_⟩
  rw [Around.under_plain (weight_type_call_type "set" [.ref l] []) rfl]
  repeat (any_goals (first | assumption | wp_step))
  refine codeAny_mono (code_set_led1 (.ref l) (E := E) (Q₁ := fun obj s₁ => obj = .ref s.heap.objs.size ∧ s₁ = { s with heap := s.heap.push (setO w) }) ⟨rfl, rfl⟩) fun r s₁ hr => ?_
  cases r with
  | error e => exact hr
  | ok fl =>
    cases fl with
    | ret obj =>
      obtain ⟨rfl, rfl⟩ := hr
      have at0 : (s.heap.push (setO w)).get? s.heap.objs.size = some (setO w) := Heap.get?_push_size _ rfl
      have ty0 : Shared.TypeIs { s with heap := s.heap.push (setO w) } (.ref s.heap.objs.size) "set" := ⟨_, at0, rfl⟩
      have i1 := F.called_set.init.lookup
      have i2 := F.called_set.init.bind (.ref s.heap.objs.size)
      repeat (any_goals (first | assumption | wp_step))
      refine codeAny_mono (codeAny_call_builtin (R := wants (fun r s₂ => r = .none ∧ ∃ g tk c, s₂ = { s with heap := g, toks := tk } ∧ SetR w g s.heap.objs.size (fun j => decide (j ∈ ns)) c ∧ c ≤ ns.length ∧
          (∀ b o, s.heap.get? b = some o → g.get? b = some o)) E) F.called_set.init.plain F.entry_set_init (check_set_init_1 ty0 ?_)) fun r₂ s₂ hr₂ => ?_
      · obtain ⟨ol, oget, ocl, nl, odt⟩ := lst
        obtain ⟨o1, o2, o3, o4⟩ := ol
        simp only at ocl odt
        subst ocl; subst odt
        have here : (s.heap.push (setO w)).get? l = some ⟨.type "list", o2, .seq its nl, o4⟩ := Heap.get?_push_of_some _ oget
        have u1 := F.sub_list_set
        have u2 := F.sub_list_frozenset
        have u3 : (Value.type "list" == Value.type "dict") = false := by decide
        have isl : (s.heap.push (setO w)).IsList l its := ⟨_, here, rfl, nl, rfl⟩
        unfold Builtin.«set.__init__» noKeywords Builtin.Frozenset.updateFrom
        generalize hPI : pyIter = PI
        wp_walk
        subst hPI
        refine wpAny_pyIter_list isl ?_
        refine wpAny_bind (wpAny_runValue ?_)
        have lt0 : l < s.heap.objs.size := Heap.lt_size oget
        have hd3 : A.in1.in1.in1.handled = none := by simp [hh]
        have ne1 : l ≠ (s.heap.push (setO w)).objs.size := by
          rw [Heap.size_push]
          exact Nat.ne_of_lt (Nat.lt_add_right 1 lt0)
        have off : s.heap.objs.size ∉ [(s.heap.push (setO w)).objs.size, l] := by
          rw [Heap.size_push]
          intro z
          rcases List.mem_cons.mp z with z | z
          · exact absurd z (Nat.ne_of_lt (Nat.lt_succ_self _))
          · rw [List.mem_singleton.mp z] at lt0
            exact Nat.lt_irrefl _ lt0
        have vals : ∀ (i : Nat) (v : Value), its[i]? = some v → ∃ k t, ns[i]? = some k ∧ v = .int k t := fun i v hv => by
          have hi : i < ns.length := by
            rw [← sz]
            exact (Array.getElem?_eq_some_iff.mp hv).1
          obtain ⟨t, e⟩ := are.int_at i v (by rw [Array.getElem?_toList]; exact hv)
          exact ⟨ns[i], t, List.getElem?_eq_getElem hi, by rw [e, List.getD_eq_getElem?_getD, List.getElem?_eq_getElem hi] <;> rfl⟩
        refine set_update_ints ((Walks.list hd3 _ l ne1 its).toS) s.heap.objs.size off ns sz room vals (its.size - 0) 0 _ (by omega) (Nat.zero_le _) ⟨⟨_, Heap.get?_push_size _ rfl, rfl, rfl⟩, isl.push _⟩ ?start ?fin
        case start => exact ⟨0, Nat.le_refl 0, setR_new_at (Heap.get?_push_of_some _ at0)⟩
        case fin =>
          intro s' c' mv hc R
          obtain ⟨g, g2, d2, tk, o5⟩ := s'
          have e1 : g2 = s.gens := mv.gens
          have e2 : d2 = s.drawn := mv.drawn
          have e3 : o5 = s.os := mv.os
          subst e1; subst e2; subst e3
          show wpAny _ _ _ _ _ _
          refine wpAny_pure ?_
          show wpAny _ _ (ret Value.none) _ _ _
          rw [sz] at hc
          refine wpAny_pure ⟨rfl, g, tk, c', rfl, R, hc, fun b o e => ?_⟩
          have hb := Heap.lt_size e
          refine mv.heap b o (fun z => ?_) (Heap.get?_push_of_some _ (Heap.get?_push_of_some _ e))
          rcases List.mem_cons.mp z with z | z
          · rw [z] at hb
            exact Nat.lt_irrefl _ hb
          · rw [List.mem_singleton.mp z, Heap.size_push] at hb
            exact Nat.lt_irrefl _ (Nat.lt_trans (Nat.lt_succ_self _) hb)
      · cases r₂ with
        | error e => exact hr₂
        | ok fl₂ =>
          cases fl₂ with
          | ret r =>
            obtain ⟨rfl, g, tk, c', rfl, R, hc, kp⟩ := hr₂
            repeat (any_goals (first | assumption | wp_step))
            exact q _ _ _ R hc kp
          | _ => exact hr₂.elim
    | _ => exact hr.elim
end
section
variable {X : Cx}
/-- sorted(set(xs)) of ints -/
def ySrtSet (K : PySem.W.Frag) (ta : TE) : TE := fun σ H Q => ta σ H fun x H1 => match x with
  | .ref l => ∃ ns : List Int, SqL K H1 l (ns.map V.int) ∧ ns.length ≤ 62 ∧ ∀ (ns' : List Int) (p : Addr), ns'.Pairwise (· < ·) → (∀ k, k ∈ ns' ↔ k ∈ ns) → H1 p = none → Q (.ref p) (upd H1 p (.lst (ns'.map V.int)))
  | _ => False
theorem ye_srtSet {a : Expr} {ta : TE} {p p2 q pos : Pos} (hc : X.calm = true) (hg : Gl X "sorted") (hm : X.mg "sorted" = none) (hg2 : Gl X "set") (hm2 : X.mg "set" = none) (ha : PE X a ta)
    (na : starEach [a] X.env = (false, eval a X.env) :: starEach [] X.env := by rfl) : PE X (.Call (.Name "sorted" p) [.Call (.Name "set" p2) [a] [] q] [] pos) (ySrtSet X.K ta) := by
  refine ⟨fun pins s σ H Q I h => ?_⟩
  refine Call_ (ld_blt I hg hm PyProof.Rows.boot_sorted ?_)
  refine callWith_builtin1 (args_cons ?_ rfl) rfl rfl
  refine Call_ (ld_blt I hg2 hm2 boot_set ?_)
  refine callWith_type1 (args_cons (thn (ha.run pins s σ H _ I h) fun v s1 ⟨x, H1, I1, r1, q1⟩ => args_nil ?_) na) na rfl
  cases x <;> first | exact False.elim q1 | skip
  obtain ⟨ns, hq, hl, q1⟩ := q1
  cases r1
  obtain ⟨its, rv, pl, hz⟩ := I1.list hq
  refine set_ofL ns (I1.ok.hd hc) pl.isList rv.ints (by unfold scanBound; omega) fun g tk c R hcn k => ?_
  refine args_nil ?_
  refine sorted_set (s := { s1 with heap := g, toks := tk }) R (I1.ok.hd hc) (by omega) fun s2 p out n ns' k2 g2 o2 hp he hi hs hS hn => ?_
  have ka : ∀ b u, s1.heap.get? b = some u → s2.heap.get? b = some u := fun b u e => k2 b u (k b u e)
  have gs : s1.heap.objs.size < g.objs.size := R.lt
  have lp : s1.heap.objs.size ≤ p := Nat.le_trans (Nat.le_of_lt gs) hp
  have fresh : H1 p = none := I1.hok.fresh lp
  have hz2 : (ns'.map V.int).length ≤ sizeLine := by
    rw [List.length_map, sizeLine_eq]
    omega
  have J : Inv X pins σ (upd H1 p (.lst (ns'.map V.int))) s2 :=
    I1.call' (ch := []) o2 (Un.laid ka lp fresh) (I1.hok.laid ka lp ⟨hz2, out.toList, n, vals_of_ints hi, he⟩) (by rw [g2]; exact I1.bare) (fun _ z => nomatch z)
  exact ⟨.ref p, _, J, rfl, q1 ns' p hs (fun k => by rw [hS k, decide_eq_true_eq]) fresh⟩
/-! ### z[::-1] -/
def revS (z : Str) : Str := ⟨z.cps.toList.reverse.toArray⟩
theorem revS_len (z : Str) : (revS z).length = z.length := by
  show z.cps.toList.reverse.toArray.size = z.cps.size
  simp
theorem rev_picked (z : Str) (u : Tok) : Txt.sliceBy z none none (-1, u) = revS z := by
  have h := step_rev_list z u
  generalize Txt.sliceBy z none none (-1, u) = x at h
  obtain ⟨x⟩ := x
  apply Str.ext'
  apply Array.ext'
  show x.toList = z.cps.toList.reverse.toArray.toList
  have h : x.toList = (List.range z.length).map fun k => z.cps.getD (z.length - 1 - k) 0 := h
  rw [h]
  apply List.ext_getElem
  · simp [Str.length]
  · intro i h1 h2
    have hi : i < z.cps.size := by simpa [Str.length] using h1
    simp only [List.getElem_map, List.getElem_range, List.getElem_reverse, Array.length_toList, Array.getElem_toList]
    have e : z.cps.size - 1 - i < z.cps.size := by omega
    show z.cps.getD (z.cps.size - 1 - i) 0 = _
    rw [Array.getD_eq_getD_getElem?, Array.getElem?_eq_getElem e]
    rfl
def revK (x : V) (Q : VK) (i : Int) (H : Hp) : Prop := match x with
  | .str z => i = -1 ∧ z.length ≤ sizeLine ∧ Q (.str (revS z)) H
  | _ => False
def yRevS (te tb : TE) : TE := fun σ H Q => te σ H fun x H1 => tb σ H1 fun y H2 => match x, y with
  | .str z, .int i => i = -1 ∧ z.length ≤ sizeLine ∧ Q (.str (revS z)) H2
  | _, _ => False
theorem ye_revS {e b : Expr} {te tb : TE} {p3 pos : Pos} (he : PE X e te) (hb : PE X b tb) : PE X (.Subscript e (.Slice none none (some b) p3) pos) (yRevS te tb) := by
  refine ⟨fun pins s σ H Q I h => Subscript_ (thn (he.run pins s σ H _ I h) fun v s1 hv => ?_)⟩
  obtain ⟨x, H1, I1, rx, q⟩ := hv
  refine wpAny_Slice (thn (po_none.run pins s1 σ H1 (fun o H2 => o = none ∧ H2 = H1) I1 ⟨rfl, rfl⟩) fun vl s2 hl => ?_)
  obtain ⟨o1, G1, I2, pl, e1, e2⟩ := hl
  subst e1 e2
  refine thn (po_none.run pins s2 σ G1 (fun o H3 => o = none ∧ H3 = G1) I2 ⟨rfl, rfl⟩) fun vu s3 hu => ?_
  obtain ⟨o2, G2, I3, pu, e1, e2⟩ := hu
  subst e1 e2
  refine thn ((po_some (PE.up hb)).run pins s3 σ G2 (fun o H4 => ∃ i, o = some i ∧ revK x Q i H4) I3 ⟨_, q, fun y H2 q2 => ?_⟩) fun vs s4 hs => ?_
  · cases x <;> cases y <;> first | exact False.elim q2 | skip
    exact ⟨_, rfl, _, rfl, q2⟩
  obtain ⟨o3, G3, I4, ps, i, e3, q2⟩ := hs
  cases x <;> first | exact False.elim q2 | skip
  rename_i z
  obtain ⟨rfl, hz, q2⟩ := q2
  subst e3
  obtain ⟨t, rfl⟩ := rx
  obtain ⟨l, rfl, hl1⟩ := IsPart.raw pl
  obtain ⟨u, rfl, hu1⟩ := IsPart.raw pu
  obtain ⟨st, rfl, hs1⟩ := IsPart.raw ps
  cases l with
  | some _ => cases hl1
  | none =>
  cases u with
  | some _ => cases hu1
  | none =>
  cases st with
  | none => cases hs1
  | some st =>
  obtain ⟨i, ut⟩ := st
  have hi : i = -1 := Option.some.inj hs1
  subst hi
  have I5 : Inv X pins σ G3 { s4 with heap := s4.heap.push { cls := .type "slice", data := .fields #[partValue none, partValue none, partValue (some (-1, ut))] } } := I4.kept (t' := s4.toks) fun b ob q => Heap.get?_push_of_some _ q
  show wpAny (model X.prog X.w) X.A (subscriptTail e (.Slice none none (some b) p3) (.str z t) (.ref s4.heap.objs.size)) _ X.xe _
  refine tail_any (ops := [.str z t, .ref s4.heap.objs.size]) (typeIs_str _ _ _) (F.slot_str_getitem.lookup) ?_ (by with_unfolding_all rfl)
  refine wpAny_getItem_str_slice (l := none) (u := none) (st := some (-1, ut)) ⟨_, Heap.get?_push_size _ rfl, rfl, rfl⟩ rfl ?_
  have e := rev_picked z ut
  have hle : (revS z).length ≤ sizeLine := by
    rw [revS_len]
    exact hz
  rw [← e] at hle q2
  unfold Txt.sliceBy at hle q2
  unfold sliceMade
  by_cases c : ((((some ((-1 : Int), ut)).map (·.1)).getD 1 == 1 && (slicePicked z none none (some (-1, ut))).length == z.length) = true)
  · exact absurd c (by
      have : (((some ((-1 : Int), ut)).map (·.1)).getD 1 == 1) = false := rfl
      rw [this]
      simp)
  · rw [if_neg c] at hle q2 ⊢
    exact ⟨hle, .str _, G3, I5.tok _, ⟨_, rfl⟩, q2⟩
end
/-! ### classmethods -/
/-- m is a classmethod of the class x -/
structure OC (P : Program) (w : World) (K : PySem.W.Frag) (mg : Str → Option Value) (base : Heap) (x m : Str) (k : Nat) (ps : List Str) (sp : Sp) : Prop where
  rd : ClX.CRead K (He.ga K x) (.type "type")
  ex : ∃ p f fd, ClX.CMet K (He.ga K x) (.type "type") m p f ∧ FnOk P w K mg base (L2.CX P w) k f fd ps sp ∧ Binds K fd ps []
section
variable {X : Cx} {x m : Str} {k : Nat} {ps : List Str} {sp : Sp} {W : WX} {t : TA} {ta : TE} {e o : Expr} {es : List Expr} {p pos apos : Pos}
/-- x.m(..), x the class -/
def yCMeth (C : Addr) (sp : Sp) (W : WX) (ta : TE) (t : TA) : TE := fun σ H Q => ta σ H fun x H1 => x = .ref C ∧ t σ H1 fun vs H2 => sp (.ref C :: vs) H2 Q fun cls d H' => W cls d σ H'
theorem ye_cmeth {pl : Sem Bool} (M : OC X.prog X.w X.K X.mg X.base x m k ps sp) (tk : Takes X W) (hr : Room k X.A) (ho : PE X o ta) (ha : PA X (e :: es) t)
    (hst : starEach (e :: es) X.env = (false, eval e X.env) :: starEach es X.env := by rfl) (hpl : (backTo pos (starEach es X.env)).any (·.1) = false := by rfl)
    (ht : eval (.Call (.Attribute o m apos) (e :: es) [] pos) X.env = (do
      let ov ← eval o X.env
      standAt apos.atName
      let (f, first) ← holding [ov] (getMethod ov m pl)
      callWith pos f first (backTo pos (starEach (e :: es) X.env)) (backToKw pos (keywordEach [] X.env))) := by rfl) : PE X (.Call (.Attribute o m apos) (e :: es) [] pos) (yCMeth (He.ga X.K x) sp W ta t) := by
  obtain ⟨q, f, fd, h1, h2, h3⟩ := M.ex
  refine ⟨fun pins s σ H Q I h => ?_⟩
  refine PySem.W.methodCall_KW (pl := pl) (thn (ho.run pins s σ H _ I h) fun u s1 ⟨y, H1, I1, rx, ey, q1⟩ => ?_) ht
  subst ey
  obtain rfl : u = Value.ref (He.ga X.K x) := rx
  refine ClX.getmethcm_ok I1 M.rd h1 fun s2 I2 => ?_
  refine ClX.callwith_cm I2 (ClX.base_none I1 (Nat.le_refl _)) h1.fi (thn (ha.run pos _ s2 σ H1 _ I2 q1) fun us s3 ⟨vs, H2, I3, rv, q2⟩ => ⟨⟨ClX.pin_at I3, I3.kIn⟩, ?_⟩) hst hpl
  have r2 : Vals (V.ref (He.ga X.K x) :: vs) (Value.ref (He.ga X.K x) :: us) := .cons rfl rv
  have F := h2.raw h3 .nil
  have hx : PassesAt (L2.CX X.prog X.w) X σ (fun cls d H' => W cls d σ H') := passAt tk σ
  suffices z : wpAny (model X.prog X.w) X.A (call (.ref s1.heap.objs.size) us) (EP X ((s1.heap.objs.size, PySem.W.methodObj (.ref f) (.ref (He.ga X.K x))) :: pins) σ Q) X.xe s3 from thn z fun _ _ y => ClX.unpinE y
  refine wpAny_call (PySem.W.method_call (ClX.pin_at I3) (codeAny_mono (F X.A X.stack s3 H2 _ _ Q (fun cls d H' => W cls d σ H') hr I3.env0 r2 (show sp ((V.ref (He.ga X.K x) :: vs) ++ []) H2 Q _ by rw [List.append_nil]; exact q2)) fun r s' hq' => ?_))
  cases r with
  | error e => exact hx _ _ _ e s' I3 hq'
  | ok fl =>
    cases fl with
    | ret u => exact I3.after hq'
    | next => exact False.elim hq'
    | brk => exact False.elim hq'
    | cont => exact False.elim hq'
/-- a name that holds the class of instances -/
def yNewV (i : Nat) (C : Addr) (sp : Sp) (W : WX) (t : TA) : TE := fun σ H Q => σ[i]? = some (some (.ref C)) ∧ yNew C sp W t σ H Q
theorem ye_newV {y : Str} {i : Nat} (M : OM X.prog X.w X.K X.mg X.base x k ps sp) (tk : Takes X W) (hr : Room (k + 1) X.A) (hN : X.N[i]? = some y) (hv : Vis X.env.scope y) (ha : PA X (e :: es) t) (hd : (y == ("__debug__" : Str)) = false := by decide) (hcd : (y == ("__classdict__" : Str)) = false := by decide)
    (he : starEach (e :: es) X.env = (false, eval e X.env) :: starEach es X.env := by rfl) (hpl : (backTo pos (starEach es X.env)).any (·.1) = false := by rfl) : PE X (.Call (.Name y p) (e :: es) [] pos) (yNewV i (He.ga X.K x) sp W t) := by
  obtain ⟨f, fd, h1, h2, h3, h4⟩ := M.ex
  refine ⟨fun pins s σ H Q I ⟨hs, h⟩ => ?_⟩
  refine wpAny_Call_Name_kw (thn ((pe_var hN hv hd hcd).run pins s σ H (fun v H1 => v = .ref (He.ga X.K x) ∧ H1 = H) I ⟨_, hs, rfl, rfl⟩) fun u s1 ⟨v, H1, I1, rv, ev, eH⟩ => ?_)
  subst ev eH
  obtain rfl : u = Value.ref (He.ga X.K x) := rv
  refine PySem.W.callWith_K (h₀ := X.base) I1.ok.mod.kin h1.kp (thn (ha.run pos pins s1 σ H1 _ I1 h) fun us s2 ⟨vs, H2, I2, r, q⟩ => ⟨I2.kIn, ?_⟩) he hpl
  exact new_run h1 h2 hr h4 (passAt tk σ) I2 r q
end
end Eb

/-! enumerate of a tuple; a reading that is one of two. -/
namespace PySem
open Sem (wp)
open AutoSeq1 (wpAny_loadPart')
abbrev itT0 (t : Addr) : Obj := { cls := .type "tuple_iterator", data := .fields #[.ref t, .int 0 0] }
abbrev enT0 (i : Addr) : Obj := { cls := .type "enumerate", data := .fields #[.none, .bool false, .ref i, rawInt 0, .none, .none] }
theorem enum_newT (t : Addr) (its : Array Value) :
    Meets (Builtin.«enumerate.__new__» ⟨[.type "enumerate", .ref t], []⟩) (fun _ R s => s.heap.IsTuple t its ∧
      R (.ok (.ret (.ref (s.heap.push (itT0 t)).objs.size))) { s with heap := (s.heap.push (itT0 t)).push (enT0 s.heap.objs.size) }) :=
  .of_wp fun prog w A R s h => by
    obtain ⟨hp, g, d, tk, os⟩ := s
    obtain ⟨isT, h⟩ := h
    have isT : Heap.IsTuple (Shared.heap ⟨hp, g, d, tk, os⟩) t its := isT
    have sub1 := sub_enumerate
    obtain ⟨o, ot, oc, n, od⟩ := id isT
    obtain ⟨o1, o2, o3, o4⟩ := o
    simp only at oc od
    subst oc; subst od
    wp_walk using wpAny_loadPart' ot
    refine wpAny_stack_any fun st => wpAny_pure ?_
    split
    · rename_i c _ _ _ _ _
      cases (c == Value.type "enumerate")
      · wp_walk using wpAny_loadPart' ot, wpAny_pyIter_tuple isT
        exact ⟨_, rfl, h⟩
      · wp_walk using wpAny_loadPart' ot, wpAny_pyIter_tuple isT
        exact ⟨_, rfl, h⟩
    · wp_walk using wpAny_loadPart' ot, wpAny_pyIter_tuple isT
      exact ⟨_, rfl, h⟩
theorem call_enumT {prog : Program} {w : World} {A : Around} {E : Value → Shared → Prop} {s : Shared} {t : Addr} {its : Array Value} {Q : Value → Shared → Prop} (isT : s.heap.IsTuple t its)
    (h : ∀ g, IsEnum g (s.heap.objs.size + 1) s.heap.objs.size 0 .none → g.IsTupleIter s.heap.objs.size t 0 → (∀ b o, s.heap.get? b = some o → g.get? b = some o) → Q (.ref (s.heap.objs.size + 1)) { s with heap := g }) :
    wpAny (model prog w) A (call (.type "enumerate") [.ref t]) Q E s := by
  refine callType_new F.called_enumerate (by decide) (F.typeCall_enumerate_1 _) (F.newCall_enumerate_1 _) (fun obj => F.args_object_init_2 obj _) F.entry_enumerate_new (enum_newT t its) ⟨isT, ?_⟩
  have z : (s.heap.push (itT0 t)).objs.size = s.heap.objs.size + 1 := Heap.size_push ..
  show _ ∧ _
  rw [z]
  have e : IsEnum ((s.heap.push (itT0 t)).push (enT0 s.heap.objs.size)) (s.heap.objs.size + 1) s.heap.objs.size 0 .none := by
    have q := Heap.get?_push_size (s.heap.push (itT0 t)) (o := enT0 s.heap.objs.size) rfl
    rw [z] at q
    exact q
  exact ⟨⟨_, e, rfl⟩, h _ e ⟨_, Heap.get?_push_of_some _ (Heap.get?_push_size _ rfl), rfl, rfl⟩ fun b o x => Heap.get?_push_of_some _ (Heap.get?_push_of_some _ x)⟩
end PySem
namespace Eb
open PySem PySem.Spec PyProof.Rows L2
def IteT (K : PySem.W.Frag) (a : Addr) : It :=
  ⟨fun i H => ∃ (xs : List V) (x : V), SqT K H a xs ∧ xs[i]? = some x, fun i H v H' => ∃ T x, v = .ref T ∧ H T = none ∧ H' = upd H T (.tup [.int (i : Nat), x]) ∧ ∀ xs, SqT K H a xs → xs[i]? = some x, fun i H => ∃ xs : List V, SqT K H a xs ∧ xs.length = i⟩
theorem turn_enumT {P : Program} {w : World} {K : PySem.W.Frag} {elts : List Expr} {kk : Nat} {tpos : Pos} {a e it : Addr} {its : Array Value} (hE : e ≠ it) (hea : e ≠ a) (hia : a ≠ it) :
    Turn P w K (.Tuple elts kk tpos) (IteT K a) [e, it] e (fun i h => (∃ old, IsEnum h e it ((i : Nat) : Int) old) ∧ h.IsTupleIter it a i) where
  mem := by simp
  obj := fun i h st b hb => by
    obtain ⟨⟨old, he⟩, ⟨o, ho, hc, hd⟩⟩ := st
    rcases (show b = e ∨ b = it by simpa using hb) with z | z
    · rw [z]
      exact ⟨_, he, fun v q => nomatch q⟩
    · rw [z]
      exact ⟨o, ho, fun v q => by rw [hd] at q; cases q⟩
  keep := fun i h h' st k => let ⟨⟨old, he⟩, hi⟩ := st; ⟨⟨old, k e (by simp) _ he⟩, hi.at fun o q => k it (by simp) o q⟩
  item := by
    intro X hP hw hK hc i pins s σ H E I hf st hg
    subst hP hw hK
    obtain ⟨⟨old, he⟩, hit⟩ := st
    obtain ⟨xs, x, hq, hx⟩ := hg
    obtain ⟨us, rv, p, hz⟩ := I.tuple hq
    obtain ⟨u, hu, ru⟩ := rv.get hx
    have pT : s.heap.IsTuple a us.toArray := p
    have lt : i < us.toArray.size := by
      have z := (List.getElem?_eq_some_iff.mp hu).1
      simpa using z
    refine wpAny_pyNext_enum_itemD (Draws.tuple (A := X.A.in1) (I.ok.hd hc) it a hia us.toArray) he ⟨hit, pT⟩ lt hE (by simp [hE, hea]) fun v h' tk hv ho hit' hT hsz hk => ?_
    have ev : v = u := by
      have z : us[i]? = some v := by simpa using hv
      rw [hu] at z
      exact (Option.some.inj z).symm
    subst ev
    have hel : e < s.heap.objs.size := Heap.lt_size he
    have hil : it < s.heap.objs.size := by obtain ⟨_, q, _⟩ := hit; exact Heap.lt_size q
    refine ⟨_, rfl, wpAny_letOwnedTupleGo_enum (s := { s with heap := h', toks := tk + 1 }) ho fun g ge sb => ?_⟩
    have hT2 : g.get? s.heap.objs.size = some { cls := .type "tuple", data := .seq #[.int i tk, v] } := (sb.2 _ (Nat.ne_of_gt hel)).trans hT
    have new : ObjOk X.prog X.w (upd H s.heap.objs.size (.tup [.int (i : Nat), x])) g s.heap.objs.size (.tup [.int (i : Nat), x]) :=
      ⟨by show 2 ≤ sizeLine; decide, [.int i tk, v], .cons ⟨_, rfl⟩ (.cons ru .nil), ⟨_, hT2, rfl, _, rfl⟩⟩
    have I1 : Inv X pins σ (upd H s.heap.objs.size (.tup [.int (i : Nat), x])) { s with heap := g, toks := tk + 1 } :=
      I.turnedNew (ch := [e, it]) (fun b ob hb q => (sb.2 b (fun z => hb (by simp [z]))).trans (hk b ob (fun z => hb (by simp [z])) (fun z => hb (by simp [z])) q)) hf (Nat.le_refl _) new
    refine ⟨.ref s.heap.objs.size, _, I1, rfl, ⟨_, x, rfl, I.hok.fresh (Nat.le_refl _), rfl, fun ys hy => by rw [I.tuple_inj hy hq]; exact hx⟩, ⟨⟨v, ?_⟩, hit'.1.at fun o q => (sb.2 it (Ne.symm hE)).trans q⟩, fun b hb => ?_⟩
    · have e1 : ((i + 1 : Nat) : Int) = (i : Int) + 1 := by omega
      rw [e1]
      exact ge
    · have hb' : b < s.heap.objs.size := by
        rcases (show b = e ∨ b = it by simpa using hb) with z | z
        · rw [z]; exact hel
        · rw [z]; exact hil
      rw [upd_ne (Nat.ne_of_lt hb')]
      exact (hf b hb).1
  done := by
    intro X hP hw hK hc i pins s σ H E I hf st hg
    subst hP hw hK
    obtain ⟨⟨old, he⟩, hit⟩ := st
    obtain ⟨xs, hq, hx⟩ := hg
    obtain ⟨us, rv, p, hz⟩ := I.tuple hq
    obtain ⟨f0, f1, f2, f3, f4, f5⟩ := hf it (by simp)
    have pT : s.heap.IsTuple a us.toArray := p
    have hl : us.toArray.size = i := by
      rw [List.size_toArray, ← rv.length]
      exact hx
    subst hl
    exact wpAny_pyNext_enum_endD (Draws.tuple (A := X.A.in1) (I.ok.hd hc) it a hia us.toArray) he ⟨hit, pT⟩ fun h' eb => ⟨rfl, I.turned (t' := s.toks) (fun b o hb q => eb b o hb q) f0 f1 f3 f4 f5⟩
  self := fun A i s Q E st h => let ⟨⟨_, he⟩, _⟩ := st; wpAny_pyIter_enum he h
def iEnumT (K : PySem.W.Frag) (ta : TA) : TI := fun σ H R => ta σ H fun vs H1 => ∃ a xs, vs = [.ref a] ∧ SqT K H1 a xs ∧ R (IteT K a) H1
theorem pi_enumT {X : Cx} {e : Expr} {ta : TA} {p pos tpos : Pos} {elts : List Expr} {kk : Nat} (hg : Gl X "enumerate") (hm : X.mg "enumerate" = none) (ha : PA X [e] ta) (hs : starEach [e] X.env = [(false, eval e X.env)] := by rfl) :
    PI X (.Tuple elts kk tpos) (.Call (.Name "enumerate" p) [e] [] pos) (iEnumT X.K ta) := by
  refine ⟨fun pins s σ H R I h => ?_⟩
  refine Call_ (ld_blt I hg hm boot_enumerate (callWith_type1 (thn (ha.run pos pins s σ H _ I h) fun us s1 ⟨vs, H1, I1, r1, q1⟩ => ?_) hs rfl))
  obtain ⟨a, xs, ex, hq, q⟩ := q1
  subst ex
  cases r1 with
  | cons r rr =>
    cases rr
    cases r
    obtain ⟨its, rv, p', hz⟩ := I1.tuple hq
    have pT : s1.heap.IsTuple a its.toArray := p'
    have la : a < s1.heap.objs.size := by obtain ⟨_, q, _⟩ := id pT; exact Heap.lt_size q
    refine call_enumT pT fun g he hit hk => wpAny_pyIter_enum he ?_
    have I2 : Inv X pins σ H1 { s1 with heap := g } := I1.kept (t' := s1.toks) hk
    refine ⟨s1.heap.objs.size + 1, [s1.heap.objs.size + 1, s1.heap.objs.size], _, _, H1, rfl, I2, turn_enumT (its := #[]) (Nat.succ_ne_self _) (Nat.ne_of_gt (Nat.lt_succ_of_lt la)) (Nat.ne_of_lt la), ⟨⟨.none, he⟩, hit⟩, fun b hb => ?_, q⟩
    have hle : s1.heap.objs.size ≤ b := by
      rcases (show b = s1.heap.objs.size + 1 ∨ b = s1.heap.objs.size by simpa using hb) with z | z
      · rw [z]; exact Nat.le_add_right _ _
      · rw [z]; exact Nat.le_refl _
    exact I1.fpOk hle (I1.hok.fresh hle)
theorem walk_enumT {K : PySem.W.Frag} {a : Addr} {xs : List V} : Walk (IteT K a) xs.length (fun H => SqT K H a xs) (YPair (fun i => some (.int (i : Nat))) (fun i => xs[i]?)) := by
  refine ⟨fun i _ hi q => ⟨xs, xs[i], q, by simp [hi]⟩, fun _ q => ⟨xs, q, rfl⟩, fun i H v H' _ q y => ?_⟩
  obtain ⟨T, x, h1, h2, h3, h4⟩ := y
  exact ⟨T, _, x, h1, h2, h3, rfl, h4 xs q⟩
def jEnumT (K : PySem.W.Frag) (tl : TE) : Src := fun σ H R => tl σ H fun x H1 => match x with
  | .ref a => ∃ xs, SqT K H1 a xs ∧ R xs.length (fun H => SqT K H a xs) (YPair (fun i => some (.int (i : Nat))) (fun i => xs[i]?)) H1
  | _ => False
def jOr (a b : Src) : Src := fun σ H R => a σ H R ∨ b σ H R
def yOr2 (a b : TE) : TE := fun σ H Q => a σ H Q ∨ b σ H Q
section
variable {X : Cx}
theorem j_enumT {e : Expr} {te : TE} {p pos tpos : Pos} {elts : List Expr} {kk : Nat} (hg : Gl X "enumerate") (hm : X.mg "enumerate" = none) (h : PE X e te) (hs : starEach [e] X.env = [(false, eval e X.env)] := by rfl) : PSrc X (.Tuple elts kk tpos) (.Call (.Name "enumerate" p) [e] [] pos) (jEnumT X.K te) := ⟨_, pi_enumT hg hm (pa_cons (PE.up h) pa_nil hs) hs, fun σ H R R' q k => ⟨_, q, fun x H1 q1 => by
  cases x <;> first | exact False.elim q1 | skip
  obtain ⟨xs, h1, q2⟩ := q1
  exact ⟨_, xs, rfl, h1, k _ _ _ _ q2 _ walk_enumT⟩⟩⟩
theorem j_or {tg iter : Expr} {a b : Src} (ha : PSrc X tg iter a) (hb : PSrc X tg iter b) : PSrc X tg iter (jOr a b) := by
  obtain ⟨w1, p1, h1⟩ := ha
  obtain ⟨w2, p2, h2⟩ := hb
  refine ⟨fun σ H R => w1 σ H R ∨ w2 σ H R, ⟨fun pins s σ H R I h => h.elim (fun h => p1.run pins s σ H R I h) fun h => p2.run pins s σ H R I h⟩, fun σ H R R' q k => ?_⟩
  exact q.elim (fun q => .inl (h1 σ H R R' q k)) fun q => .inr (h2 σ H R R' q k)
theorem ye_or2 {e : Expr} {a b : TE} (ha : PE X e a) (hb : PE X e b) : PE X e (yOr2 a b) := ⟨fun pins s σ H Q I h => h.elim (fun h => ha.run pins s σ H Q I h) fun h => hb.run pins s σ H Q I h⟩
end
end Eb

namespace Eb
open PySem PySem.Spec PyProof.Rows L2
def top (i : Nat) : Stmt := PySem.Challenge.pw_edgejumps_k03_sheets_cut_and_joined.main.body.getD i (.Pass ⟨0, 0, 0, 0⟩)
abbrev clsN : List Str := ["EdgeError", "BadSheet", "BadTracks", "BadCount", "NoTrack", "NoColumn", "OtherTracks", "Rows", "Sheet"]
abbrev fldN : List (Str × Str) := [("Rows", "tracks"), ("Rows", "signs"), ("Sheet", "tracks"), ("Sheet", "signs"), ("Sheet", "row_of"), ("Sheet", "text")]
end Eb

namespace Eb
open PySem PySem.Spec PyProof.Rows L2
/-! ### comprehensions over a text -/
theorem lc_str {i : Nat} {tl te : TE} {σ : L2.St} {H : Hp} {Q : VK} {z : Str} (fv : Nat → V) (h : ∀ R, tl σ H R = R (.str z) H) (hl : z.length < sizeLine)
    (hw : ∀ x, wipe ((wipe σ [i]).set i (some x)) [i] = wipe σ [i])
    (hf : ∀ D H' c Q', H D = none → Ext H H' → c ∈ z.cps.toList → Q' (fv c) H' → te ((wipe σ [i]).set i (some (.str ⟨#[c]⟩))) H' Q') (hq : ∀ D, H D = none → Q (.ref D) (upd H D (.lst (z.cps.toList.map fv)))) : yLc (jStr tl) (gName i) tYes te [i] σ H Q := by
  show tl σ H _
  rw [h]
  refine fun D hD => ⟨fun n acc H' => acc = (z.cps.toList.take n).map fv ∧ H' = upd H D (.lst acc), ⟨by simp, rfl⟩, fun n acc H' hn ⟨e1, e2⟩ => ?_, fun n x acc H' H2 hn ⟨e1, e2⟩ y => ?_, fun acc H' ⟨e1, e2⟩ => ?_⟩
  · subst e1 e2
    refine ⟨trivial, upd_same, ?_⟩
    have e : z.cps.toList.length = z.length := by simp [Str.length]
    rw [List.length_map, List.length_take]
    omega
  · subst e1 e2
    obtain ⟨e, c, hc, rfl⟩ := y
    subst e
    have hc' : z.cps.toList[n]? = some c := by rw [Array.getElem?_toList]; exact hc
    refine ⟨hw _, brT rfl (hf D _ c _ hD (Ext.new hD) (List.mem_of_getElem? hc') ⟨upd_same, ?_, upd_idem⟩)⟩
    have h1 : n < z.cps.toList.length := (List.getElem?_eq_some_iff.mp hc').1
    rw [List.getElem?_eq_getElem h1] at hc'
    rw [List.take_succ_eq_append_getElem h1, List.map_append, Option.some.inj hc']
    rfl
  · subst e1 e2
    rw [List.take_of_length_le (by simp)]
    exact hq D hD
/-- the signs that pass -/
theorem lc_strF {i : Nat} {tl te : TE} {tt : TT} {σ : L2.St} {H : Hp} {Q : VK} {z : Str} (p : Nat → Bool) (h : ∀ R, tl σ H R = R (.str z) H) (hl : z.length < sizeLine)
    (hw : ∀ x, wipe ((wipe σ [i]).set i (some x)) [i] = wipe σ [i])
    (ht : ∀ H' c Q', c ∈ z.cps.toList → Q' (p c) H' → tt ((wipe σ [i]).set i (some (.str ⟨#[c]⟩))) H' Q') (hf : ∀ H' c Q', Q' (.str ⟨#[c]⟩) H' → te ((wipe σ [i]).set i (some (.str ⟨#[c]⟩))) H' Q')
    (hq : ∀ D, H D = none → Q (.ref D) (upd H D (.lst ((z.cps.toList.filter p).map fun c => V.str ⟨#[c]⟩)))) : yLc (jStr tl) (gName i) tt te [i] σ H Q := by
  show tl σ H _
  rw [h]
  refine fun D hD => ⟨fun n acc H' => acc = ((z.cps.toList.take n).filter p).map (fun c => V.str ⟨#[c]⟩) ∧ H' = upd H D (.lst acc), ⟨by simp, rfl⟩, fun n acc H' hn ⟨e1, e2⟩ => ?_, fun n x acc H' H2 hn ⟨e1, e2⟩ y => ?_, fun acc H' ⟨e1, e2⟩ => ?_⟩
  · subst e1 e2
    refine ⟨trivial, upd_same, ?_⟩
    have e : z.cps.toList.length = z.length := by simp [Str.length]
    have e3 := List.length_filter_le p (z.cps.toList.take n)
    rw [List.length_take] at e3
    rw [List.length_map]
    omega
  · subst e1 e2
    obtain ⟨e, c, hc, rfl⟩ := y
    subst e
    have hc' : z.cps.toList[n]? = some c := by rw [Array.getElem?_toList]; exact hc
    have h1 : n < z.cps.toList.length := (List.getElem?_eq_some_iff.mp hc').1
    have ec : z.cps.toList[n] = c := Option.some.inj ((List.getElem?_eq_getElem h1).symm.trans hc')
    refine ⟨hw _, ht _ c _ (List.mem_of_getElem? hc') ?_⟩
    cases hp : p c with
    | true =>
      refine brT rfl (hf _ c _ ⟨upd_same, ?_, upd_idem⟩)
      rw [List.take_succ_eq_append_getElem h1, List.filter_append, List.map_append, ec]
      simp [hp]
    | false =>
      refine brF rfl ⟨?_, rfl⟩
      rw [List.take_succ_eq_append_getElem h1, List.filter_append, List.map_append, ec]
      simp [hp]
  · subst e1 e2
    rw [List.take_of_length_le (by simp)]
    exact hq D hD
/-! ### the plain functions -/
def LETTERS : Str := "abcdefghijklmnopqrstuvwxyz"
def BARRED : List Str := (["left", "right", "up", "down", "first", "last", "jump", "go", "swap", "fill", "clear", "flip", "take"] : List Str) ++ ((["to", "hold", "insert", "delete", "if", "else", "end", "times", "filled", "edge", "on", "at"] : List Str) ++ (["ahead", "behind", "held", "is", "here", "all", "some", "and", "or", "not"] : List Str))
def allIn (s : Str) (w : Str) : Bool := w.cps.toList.all fun c => decide (c ∈ s.cps.toList)
def nameOk (w : Str) : Bool := decide (1 ≤ w.length) && (decide (w.length ≤ 12) && (!decide (w ∈ BARRED) && allIn LETTERS w))
def rowOk (r : Str) : Bool := decide (1 ≤ r.length) && (decide (r.length ≤ 1000) && allIn "#." r)
def linesOf (t : Str) : List Str := if t = "" then [] else Txt.split t "\n"
/-- the first wrong line, or the names and the rows -/
def scan : Nat → List Str → List Str → List Str → Nat ⊕ (List Str × List Str)
  | _, ns, ss, [] => if ns = [] then .inl 1 else .inr (ns, ss)
  | i, ns, ss, l :: r => match Txt.split l " " with
    | [n, s] => if i = 3 ∨ nameOk n = false ∨ n ∈ ns ∨ rowOk s = false ∨ (0 < i ∧ s.length ≠ (ss.getD 0 "").length) then .inl (i + 1) else scan (i + 1) (ns ++ [n]) (ss ++ [s]) r
    | _ => .inl (i + 1)
def bad (t : Str) : Nat := match scan 0 [] [] (linesOf t) with
  | .inl n => n
  | .inr _ => 0
theorem inV_str {w : Str} : ∀ {xs : List Str}, inV (.str w) (xs.map V.str) = decide (w ∈ xs)
  | [] => by simp [inV]
  | x :: r => by
    have ih := inV_str (w := w) (xs := r)
    unfold inV at ih ⊢
    rw [List.map_cons, List.any_cons, ih]
    have e : L2.eqV (.str x) (.str w) = (x == w) := rfl
    rw [e]
    by_cases h : x = w
    · subst h
      simp
    · have h2 : ¬ w = x := fun z => h z.symm
      have e3 : (x == w) = false := by simpa using h
      rw [e3]
      simp [h2]
theorem tyS {K : PySem.W.Frag} {H : Hp} {t : Str} : tyV K "str" (.str t) H := by
  first | exact .inr (.inl ⟨rfl, t, rfl⟩) | exact .inr (.inr ⟨rfl, t, rfl⟩) | exact .inr (.inr (.inl ⟨rfl, t, rfl⟩)) | exact .inl ⟨rfl, t, rfl⟩ | (unfold tyV; simp)
theorem flat_strs {xs : List Str} : (xs.map V.str).all flatV = true := by simp [flatV]
section
variable {K : PySem.W.Frag} {vs : List V} {H : Hp} {Q : VK} {E : XK}
/-! ### lines_of -/
def sp_p_lines_of (_ : PySem.W.Frag) : Sp := fun vs H Q _ => ∃ t : Str, vs = [.str t] ∧ t.length + 2 ≤ 16777216 ∧ ∀ (r : Addr) (H' : Hp), Ext H H' → H r = none → H' r = some (.lst ((linesOf t).map V.str)) → Q (.ref r) H'
theorem len_p_lines_of (h : sp_p_lines_of K vs H Q E) : vs.length = 1 := by
  obtain ⟨_, rfl, _⟩ := h
  rfl
def N_p_lines_of : List Str := ["text"]
def t_p_lines_of (K : PySem.W.Frag) (E : XK) : TS :=
  (tRet (yIfE (yTst (tOp zEq (yVar 0) (tC (.str "")))) (tLst tNil) (tBM K "str" zSplit (yVar 0) (tCons (tC (.str "\n")) tNil))))
theorem pure_p_lines_of (h : sp_p_lines_of K vs H Q E) : t_p_lines_of K E (dEnd Q) (start N_p_lines_of vs) H := by
  obtain ⟨t, rfl, hl, q⟩ := h
  refine brD (fun e => ?_) fun e => ?_
  · refine ⟨Nat.zero_le _, fun p hp => q p _ (Ext.new hp) hp ?_⟩
    unfold linesOf
    rw [if_pos e]
    exact upd_same
  · refine ⟨tyS, by decide, by rw [sizeLine_eq]; exact hl, fun p hp => q p _ (Ext.new hp) hp ?_⟩
    unfold linesOf
    rw [if_neg e]
    exact upd_same
/-! ### is_name -/
def sp_p_is_name (K : PySem.W.Frag) : Sp := fun vs H Q _ => ∃ w : Str, vs = [.str w] ∧ w.length < 16777216 ∧ (∀ H, SqT K H (He.ga K "BARRED") (BARRED.map V.str)) ∧ ∀ H', Ext H H' → Q (.bl (nameOk w)) H'
theorem len_p_is_name (h : sp_p_is_name K vs H Q E) : vs.length = 1 := by
  obtain ⟨_, rfl, _⟩ := h
  rfl
theorem allIn_map {s w : Str} : (w.cps.toList.map fun c => decide (c ∈ s.cps.toList)).all id = allIn s w := by
  unfold allIn
  rw [List.all_map]
  rfl
def N_p_is_name : List Str := ["word", "sign"]
def t_p_is_name (K : PySem.W.Frag) (E : XK) : TS :=
  (tRet (yAndV (yChain zLe zLe (tC (.int 1)) (tCB (zLen K) (tCons (yVar 0) tNil)) (tC (.int 12))) (yAndV (tOp (zIn K true) (yVar 0) (tC (.ref (He.ga K "BARRED")))) (tCB (zAll K) (tCons (yLc (jStr (yVar 0)) (gName 1) tYes (tOp (zIn K false) (yVar 1) (tC (.str "abcdefghijklmnopqrstuvwxyz"))) [1]) tNil)))))
theorem pure_p_is_name (h : sp_p_is_name K vs H Q E) : t_p_is_name K E (dEnd Q) (start N_p_is_name vs) H := by
  obtain ⟨w, rfl, hl, hb, q⟩ := h
  have hsz : w.length ≤ sizeLine := by rw [sizeLine_eq]; omega
  have fin : ∀ b, nameOk w = b → Q (.bl b) H := fun b e => by rw [← e]; exact q H (Ext.refl H)
  refine ⟨hsz, brD (fun h1 => ?_) fun h1 => ?_⟩
  · refine brD (fun h2 => ?_) fun h2 => ?_
    · refine ⟨_, .inr (hb H), rfl, flat_strs, ?_⟩
      rw [inV_str]
      refine brN (fun h3 => ?_) fun h3 => ?_
      · dsimp only [tCB, tCons]
        refine lc_str (z := w) (fun c => .bl (decide (c ∈ LETTERS.cps.toList))) (by intro R; rfl) (by rw [sizeLine_eq]; exact hl) (by intro x; rfl) (fun D H' c Q' _ _ _ hq => ⟨c, rfl, hq⟩) fun D hD => ?_
        refine ⟨w.cps.toList.map fun c => decide (c ∈ LETTERS.cps.toList), SqL.of (by rw [upd_same, List.map_map]; rfl), ?_⟩
        rw [allIn_map]
        have e : nameOk w = allIn LETTERS w := by
          unfold nameOk
          have a1 : 1 ≤ w.length := by omega
          have a2 : w.length ≤ 12 := by omega
          simp [a1, a2, h3]
        rw [← e]
        exact q _ (Ext.new hD)
      · exact fin false (by unfold nameOk; simp [h3])
    · exact fin false (by
        unfold nameOk
        have a2 : ¬ w.length ≤ 12 := by omega
        simp [a2])
  · exact brF rfl (fin false (by
      unfold nameOk
      have a2 : ¬ 1 ≤ w.length := by omega
      simp [a2]))
end
end Eb

namespace Eb
open PySem PySem.Spec PyProof.Rows L2
theorem join_mem_len {s : Str} : ∀ {xs : List Str} {x : Str}, x ∈ xs → x.length ≤ (Str.join s xs).length
  | [a], x, h => by
    have e : x = a := by simpa using h
    rw [e]
    exact Nat.le_refl _
  | a :: b :: r, x, h => by
    show x.length ≤ (a ++ s ++ Str.join s (b :: r)).length
    rw [Str.length_append, Str.length_append]
    rcases List.mem_cons.mp h with e | h
    · rw [e]
      omega
    · have := join_mem_len (s := s) h
      omega
theorem part_len {t s x : Str} (h : x ∈ Txt.split t s) : x.length ≤ t.length := by
  have := join_mem_len (s := s) h
  rw [StrLaws.join_split] at this
  exact this
theorem line_len {t l : Str} (h : l ∈ linesOf t) : l.length ≤ t.length := by
  unfold linesOf at h
  split at h
  · cases h
  · exact part_len h
theorem nameOk_lay {n : Str} (h : nameOk n = true) : okV (.str n) = true := by
  unfold nameOk allIn at h
  simp only [Bool.and_eq_true, List.all_eq_true, decide_eq_true_eq] at h
  have hl : ∀ c ∈ LETTERS.cps.toList, 97 ≤ c ∧ c ≤ 122 := by decide +kernel
  show n.cps.all (· < 0x110000) = true
  rw [← Array.all_toList, List.all_eq_true]
  intro c hc
  have := hl c (h.2.2.2 c hc)
  simp only [decide_eq_true_eq]
  omega
/-- a sequence of its own -/
def SeqO (H : Hp) (p : Addr) (xs : List V) : Prop := H p = some (.lst xs) ∨ H p = some (.tup xs)
theorem SeqO.ext {H H' : Hp} {p : Addr} {xs : List V} (h : SeqO H p xs) (e : Ext H H') : SeqO H' p xs := h.elim (fun h => .inl (e _ _ h)) fun h => .inr (e _ _ h)
/-- the rows of a text, told -/
def RowsAt (K : PySem.W.Frag) (H : Hp) (a : Addr) (ns ss : List Str) : Prop := ∃ dx t1 t2, H a = some (.ins (He.ga K "Rows") dx [("tracks", .ref t1), ("signs", .ref t2)]) ∧ H t1 = some (.tup (ns.map V.str)) ∧ H t2 = some (.tup (ss.map V.str))
theorem RowsAt.ext {K : PySem.W.Frag} {H H' : Hp} {a : Addr} {ns ss : List Str} (h : RowsAt K H a ns ss) (e : Ext H H') : RowsAt K H' a ns ss := by
  obtain ⟨dx, t1, t2, h1, h2, h3⟩ := h
  exact ⟨dx, t1, t2, e _ _ h1, e _ _ h2, e _ _ h3⟩
/-- all but a stays -/
def ExtB (a : Addr) (H H' : Hp) : Prop := ∀ b o, b ≠ a → H b = some o → H' b = some o
theorem ExtB.new {a p : Addr} {H : Hp} {o : HO} (h : H p = none) : ExtB a H (upd H p o) := fun b u _ e => by rw [upd_ne (ne_of_none e h)]; exact e
theorem ExtB.put {a : Addr} {H : Hp} {o : HO} : ExtB a H (upd H a o) := fun b u n e => by rw [upd_ne n]; exact e
theorem ExtB.trans {a : Addr} {H H1 H2 : Hp} (x : ExtB a H H1) (y : ExtB a H1 H2) : ExtB a H H2 := fun b o n e => y b o n (x b o n e)
theorem ExtB.refl {a : Addr} {H : Hp} : ExtB a H H := fun _ _ _ e => e
theorem Ext.extB {a : Addr} {H H' : Hp} (e : Ext H H') : ExtB a H H' := fun b o _ h => e b o h
theorem ne_ins {H : Hp} {a b C dx : Addr} {fs : List (Str × V)} {xs : List V} (ha : H a = some (.ins C dx fs)) (hb : H b = some (.tup xs)) : b ≠ a := fun z => by rw [z, ha] at hb; cases hb
section
variable {K : PySem.W.Frag} {vs : List V} {H : Hp} {Q : VK} {E : XK}
def sp_Rows_init (K : PySem.W.Frag) : Sp := fun vs H Q _ => ∃ (a p1 p2 dx : Addr) (xs ys : List V), vs = [.ref a, .ref p1, .ref p2] ∧ H a = some (.ins (He.ga K "Rows") dx []) ∧ SeqO H p1 xs ∧ SeqO H p2 ys ∧
  ∀ (t1 t2 : Addr) (H' : Hp), ExtB a H H' → H' a = some (.ins (He.ga K "Rows") dx [("tracks", .ref t1), ("signs", .ref t2)]) → H' t1 = some (.tup xs) → H' t2 = some (.tup ys) → Q .non H'
theorem len_Rows_init (h : sp_Rows_init K vs H Q E) : vs.length = 3 := by
  obtain ⟨_, _, _, _, _, _, rfl, _⟩ := h
  rfl
def N_Rows_init : List Str := ["self", "tracks", "signs"]
def t_Rows_init (K : PySem.W.Frag) (E : XK) : TS :=
  (tSeq (yPutF (isC K ["Rows"]) (yVar 0) (tCB (zTuple K) (tCons (yVar 1) tNil)) "tracks")
    (yPutF (isC K ["Rows"]) (yVar 0) (tCB (zTuple K) (tCons (yVar 2) tNil)) "signs"))
def t_Rows_tail (K : PySem.W.Frag) (E : XK) : TS :=
  (yPutF (isC K ["Rows"]) (yVar 0) (tCB (zTuple K) (tCons (yVar 2) tNil)) "signs")
theorem tail_Rows {a p1 p2 t1 dx : Addr} {xs ys : List V} (ha : H a = some (.ins (He.ga K "Rows") dx [("tracks", .ref t1)])) (h2 : SeqO H p2 ys) (g1 : H t1 = some (.tup xs))
    (q : ∀ (t2 : Addr) (H' : Hp), ExtB a H H' → H' a = some (.ins (He.ga K "Rows") dx [("tracks", .ref t1), ("signs", .ref t2)]) → H' t1 = some (.tup xs) → H' t2 = some (.tup ys) → Q .non H') :
    t_Rows_tail K E (dEnd Q) [some (.ref a), some (.ref p1), some (.ref p2)] H := by
  have n1 := ne_ins ha g1
  rcases h2 with h2 | h2
  · refine ⟨ys, .inl ⟨SqL.of h2, fun t2 nt => ⟨_, dx, [("tracks", .ref t1)], by rw [upd_ne (ne_of_none ha nt)]; exact ha, rfl, (show 1 < 1000 by decide), q t2 _ ((ExtB.new nt).trans ExtB.put) upd_same ?_ ?_⟩⟩⟩
    · rw [upd_ne n1, upd_ne (ne_of_none g1 nt)]
      exact g1
    · have n2 : t2 ≠ a := (ne_of_none ha nt).symm
      rw [upd_ne n2, upd_same]
  · have n2 := ne_ins ha h2
    exact ⟨ys, .inr ⟨SqT.of h2, _, dx, _, ha, rfl, (show 1 < 1000 by decide), q p2 _ ExtB.put upd_same (by rw [upd_ne n1]; exact g1) (by rw [upd_ne n2]; exact h2)⟩⟩
theorem pure_Rows_init (h : sp_Rows_init K vs H Q E) : t_Rows_init K E (dEnd Q) (start N_Rows_init vs) H := by
  obtain ⟨a, p1, p2, dx, xs, ys, rfl, ha, h1, h2, q⟩ := h
  have np2 : p2 ≠ a := fun z => by rcases h2 with h2 | h2 <;> rw [z, ha] at h2 <;> cases h2
  have h3 : ∀ {o : HO} {H1 : Hp}, Ext H H1 → SeqO (upd H1 a o) p2 ys := fun {o H1} e => by
    rcases h2.ext e with h2 | h2
    · exact .inl (by rw [upd_ne np2]; exact h2)
    · exact .inr (by rw [upd_ne np2]; exact h2)
  rcases h1 with h1 | h1
  · refine ⟨xs, .inl ⟨SqL.of h1, fun t1 nt => ⟨_, dx, [], by rw [upd_ne (ne_of_none ha nt)]; exact ha, rfl, by decide, tail_Rows (E := E) upd_same (h3 (Ext.new nt)) (xs := xs) ?_ fun t2 H' e => q t1 t2 H' (((ExtB.new nt).trans ExtB.put).trans e)⟩⟩⟩
    have n2 : t1 ≠ a := (ne_of_none ha nt).symm
    rw [upd_ne n2, upd_same]
  · have n1 := ne_ins ha h1
    exact ⟨xs, .inr ⟨SqT.of h1, _, dx, [], ha, rfl, by decide, tail_Rows (E := E) upd_same (h3 (Ext.refl H)) (xs := xs) (by rw [upd_ne n1]; exact h1) fun t2 H' e => q p1 t2 H' (ExtB.put.trans e)⟩⟩
/-! ### read_rows -/
def sp_p_read_rows (K : PySem.W.Frag) : Sp := fun vs H Q E => ∃ t : Str, vs = [.str t] ∧ t.length + 2 ≤ 16777216 ∧ (∀ H, SqT K H (He.ga K "BARRED") (BARRED.map V.str)) ∧
  (∀ n, scan 0 [] [] (linesOf t) = .inl n → ∀ (d : Addr) (H' : Hp), Ext H H' → H d = none → H' d = some (.xd [("line", .int (n : Int))]) → E (.ref (He.ga K "BadSheet")) (some d) H') ∧
  (∀ ns ss, scan 0 [] [] (linesOf t) = .inr (ns, ss) → ∀ (a : Addr) (H' : Hp), Ext H H' → H a = none → RowsAt K H' a ns ss → Q (.ref a) H')
theorem len_p_read_rows (h : sp_p_read_rows K vs H Q E) : vs.length = 1 := by
  obtain ⟨_, rfl, _⟩ := h
  rfl
theorem two_of {l : Str} : (∃ n s, Txt.split l " " = [n, s]) ∨ (Txt.split l " ").length ≠ 2 := by
  cases h : Txt.split l " " with
  | nil => exact .inr (by decide)
  | cons a r => cases r with
    | nil => exact .inr (by simp)
    | cons b r => cases r with
      | nil => exact .inl ⟨a, b, rfl⟩
      | cons c r => exact .inr (by simp)
theorem scan_bad {i : Nat} {ns ss : List Str} {l : Str} {r : List Str} (h : ∀ n s, Txt.split l " " = [n, s] → i = 3 ∨ nameOk n = false ∨ n ∈ ns ∨ rowOk s = false ∨ (0 < i ∧ s.length ≠ (ss.getD 0 "").length)) : scan i ns ss (l :: r) = .inl (i + 1) := by
  show (match Txt.split l " " with
    | [n, s] => if i = 3 ∨ nameOk n = false ∨ n ∈ ns ∨ rowOk s = false ∨ (0 < i ∧ s.length ≠ (ss.getD 0 "").length) then (.inl (i + 1) : Nat ⊕ (List Str × List Str)) else scan (i + 1) (ns ++ [n]) (ss ++ [s]) r
    | _ => .inl (i + 1)) = _
  split
  · rename_i n s e
    rw [if_pos (h n s e)]
  · rfl
theorem scan_good {i : Nat} {ns ss : List Str} {l n s : Str} {r : List Str} (e : Txt.split l " " = [n, s]) (h : ¬ (i = 3 ∨ nameOk n = false ∨ n ∈ ns ∨ rowOk s = false ∨ (0 < i ∧ s.length ≠ (ss.getD 0 "").length))) : scan i ns ss (l :: r) = scan (i + 1) (ns ++ [n]) (ss ++ [s]) r := by
  show (match Txt.split l " " with
    | [n, s] => if i = 3 ∨ nameOk n = false ∨ n ∈ ns ∨ rowOk s = false ∨ (0 < i ∧ s.length ≠ (ss.getD 0 "").length) then (.inl (i + 1) : Nat ⊕ (List Str × List Str)) else scan (i + 1) (ns ++ [n]) (ss ++ [s]) r
    | _ => .inl (i + 1)) = _
  rw [e]
  exact if_neg h
end
end Eb

namespace Eb
open PySem PySem.Spec PyProof.Rows L2
section
variable {K : PySem.W.Frag} {vs : List V} {H : Hp} {Q : VK} {E : XK}
def N_p_read_rows : List Str := ["text", "tracks", "signs", "at", "line", "words", "row", "sign"]
def t_p_read_rows (K : PySem.W.Frag) (E : XK) : TS :=
  (tSeq (tAsg (tLst tNil) (gName 1))
    (tSeq (tAsg (tLst tNil) (gName 2))
    (tSeq (yFor (jEnum K (yCall (sp_p_lines_of K) E0 (tCons (yVar 0) tNil))) (gTup K 2 (gCons (gName 3) (gCons (gName 4) gNil))) (tSeq (tAsg (tBM K "str" zSplit (yVar 4) (tCons (tC (.str " ")) tNil)) (gName 5))
    (tSeq (yIf (yOr (yTst (tOp zEq (yVar 3) (tC (.int 3)))) (yOr (yTst (tOp zNe (tCB (zLen K) (tCons (yVar 5) tNil)) (tC (.int 2)))) (yOr (yNot (yTst (yCall (sp_p_is_name K) E0 (tCons (tOp (zIxL K) (yVar 5) (tC (.int 0))) tNil)))) (yTst (tOp (zIn K false) (tOp (zIxL K) (yVar 5) (tC (.int 0))) (yVar 1)))))) (yRaise (yMkR (He.ga K "BadSheet") (spI1 (He.ga K "BadSheet") "line" fmtOk) (tCons (tOp zAdd (yVar 3) (tC (.int 1))) tNil)) (fun cls d _ H => E cls d H)) tNext)
    (tSeq (tAsg (tOp (zIxL K) (yVar 5) (tC (.int 1))) (gName 6))
    (tSeq (yIf (yOr (yNot (yTst (yChain zLe zLe (tC (.int 1)) (tCB (zLen K) (tCons (yVar 6) tNil)) (tC (.int 1000))))) (yNot (yTst (tCB (zAll K) (tCons (yLc (jStr (yVar 6)) (gName 7) tYes (tOp (zIn K false) (yVar 7) (tC (.str "#."))) [7]) tNil))))) (yRaise (yMkR (He.ga K "BadSheet") (spI1 (He.ga K "BadSheet") "line" fmtOk) (tCons (tOp zAdd (yVar 3) (tC (.int 1))) tNil)) (fun cls d _ H => E cls d H)) tNext)
    (tSeq (yIf (yAnd (yTst (tOp zGt (yVar 3) (tC (.int 0)))) (yTst (tOp zNe (tCB (zLen K) (tCons (yVar 6) tNil)) (tCB (zLen K) (tCons (tOp (zIxL K) (yVar 2) (tC (.int 0))) tNil))))) (yRaise (yMkR (He.ga K "BadSheet") (spI1 (He.ga K "BadSheet") "line" fmtOk) (tCons (tOp zAdd (yVar 3) (tC (.int 1))) tNil)) (fun cls d _ H => E cls d H)) tNext)
    (tSeq (tDrop (tBM K "list" zApp (yVar 1) (tCons (tOp (zIxL K) (yVar 5) (tC (.int 0))) tNil)))
    (tDrop (tBM K "list" zApp (yVar 2) (tCons (yVar 6) tNil))))))))))
    (tSeq (yIf (yTst (tOp (zEqD K) (yVar 1) (tLst tNil))) (yRaise (yMkR (He.ga K "BadSheet") (spI1 (He.ga K "BadSheet") "line" fmtOk) (tCons (tC (.int 1)) tNil)) (fun cls d _ H => E cls d H)) tNext)
    (tRet (yNew (He.ga K "Rows") (sp_Rows_init K) W0 (tCons (yVar 1) (tCons (yVar 2) tNil))))))))
theorem pure_p_read_rows (h : sp_p_read_rows K vs H Q E) : t_p_read_rows K E (dEnd Q) (start N_p_read_rows vs) H := by
  obtain ⟨t, rfl, hl, hb, qE, qQ⟩ := h
  have bang : ∀ (G : Hp) (k : Nat), Ext H G → scan 0 [] [] (linesOf t) = .inl (k + 1) → ∀ d, G d = none → E (.ref (He.ga K "BadSheet")) (some d) (upd G d (.xd [("line", .int ((k : Nat) + 1))])) := fun G k e hs d hd =>
    qE (k + 1) hs d _ (e.trans (Ext.new hd)) (e.back hd) (by rw [upd_same]; rfl)
  have rz : ∀ (G : Hp) (k : Nat), k < 1000000 → Ext H G → scan 0 [] [] (linesOf t) = .inl (k + 1) → 1 ≤ 1000 ∧ ∀ a, G a = none → spI1 (He.ga K "BadSheet") "line" fmtOk [.ref a, .int ((k : Nat) + 1)] (upd G a (exo a (He.ga K "BadSheet") none)) (exW (He.ga K "BadSheet") (fun cls d H' => E cls d H') G a) E0 :=
    fun G k hk e hs => ⟨by decide, mkR1 (log_1920 (n := k + 1) (by omega)) fun d hd => bang G k e hs d hd⟩
  refine ⟨Nat.zero_le _, fun a1 n1 => ⟨Nat.zero_le _, fun a2 n2 => ⟨t, rfl, hl, fun r H3 e3 nr hr => ?_⟩⟩⟩
  have e0 : Ext H H3 := ((Ext.new n1).trans (Ext.new n2)).trans e3
  have n2' : H a2 = none := (Ext.new n1).back n2
  have n12 : a1 ≠ a2 := fun z => by rw [← z, upd_same] at n2; cases n2
  have h1 : H3 a1 = some (.lst []) := e3 _ _ (by rw [upd_ne n12, upd_same])
  have h2 : H3 a2 = some (.lst []) := e3 _ _ upd_same
  have nr1 : r ≠ a1 := fun z => by rw [z, upd_ne n12, upd_same] at nr; cases nr
  have nr2 : r ≠ a2 := fun z => by rw [z, upd_same] at nr; cases nr
  refine ⟨_, SqL.of hr, fun i σ G => ∃ (ns ss : List Str) (x3 x4 x5 x6 x7 : Option V), σ = [some (.str t), some (.ref a1), some (.ref a2), x3, x4, x5, x6, x7] ∧ Ext H G ∧ G a1 = some (.lst (ns.map V.str)) ∧ G a2 = some (.lst (ss.map V.str)) ∧ G r = some (.lst ((linesOf t).map V.str)) ∧
    scan 0 [] [] (linesOf t) = scan i ns ss ((linesOf t).drop i) ∧ ns.length = i ∧ ss.length = i ∧ i ≤ 3 ∧ (∀ n ∈ ns, nameOk n = true) ∧ ∀ s ∈ ss, rowOk s = true,
    ⟨[], [], _, _, _, _, _, rfl, e0, h1, h2, hr, rfl, rfl, rfl, by decide, (fun n hn => by cases hn), fun n hn => by cases hn⟩, fun i σ G _ ⟨_, _, _, _, _, _, _, _, _, _, _, gr, _⟩ => SqL.of gr, ?_, ?_⟩
  · rintro i x σ G G2 hi ⟨ns, ss, x3, x4, x5, x6, x7, rfl, eG, g1, g2, gr, hsc, l1, l2, l3, hok, hok2⟩ ⟨T, x', y', rfl, nT, rfl, ex, ey⟩
    cases ex
    have ey : ((linesOf t).map V.str)[i]? = some y' := ey
    rw [List.getElem?_map] at ey
    obtain ⟨l, hl', rfl⟩ := Option.map_eq_some_iff.mp ey
    have hlt : i < (linesOf t).length := (List.getElem?_eq_some_iff.mp hl').1
    have hd : (linesOf t).drop i = l :: (linesOf t).drop (i + 1) := by
      rw [List.drop_eq_getElem_cons hlt]
      have := (List.getElem?_eq_getElem hlt).symm.trans hl'
      rw [Option.some.inj this]
    rw [hd] at hsc
    have ll : l.length ≤ t.length := line_len (List.mem_of_getElem? hl')
    refine ⟨T, _, rfl, SqT.of upd_same, rfl, _, _, rfl, _, _, rfl, rfl, ?_⟩
    refine ⟨tyS, by decide, by rw [sizeLine_eq]; omega, fun p np => ?_⟩
    have eG3 := (Ext.new nT (o := .tup [.int (i : Nat), .str l])).trans (Ext.new np (o := .lst ((Txt.split l " ").map V.str)))
    have kp : (upd (upd G T (.tup [.int (i : Nat), .str l])) p (.lst ((Txt.split l " ").map V.str))) p = some (.lst ((Txt.split l " ").map V.str)) := upd_same
    have kpa1 : p ≠ a1 := fun z => by
      have := Ext.new nT (o := .tup [.int (i : Nat), .str l]) _ _ g1
      rw [← z, np] at this
      cases this
    have kpa2 : p ≠ a2 := fun z => by
      have := Ext.new nT (o := .tup [.int (i : Nat), .str l]) _ _ g2
      rw [← z, np] at this
      cases this
    generalize upd (upd G T (.tup [.int (i : Nat), .str l])) p (.lst ((Txt.split l " ").map V.str)) = G3 at eG3 kp ⊢
    have eH := eG.trans eG3
    have hi6 : i < 1000000 := by omega
    refine brD (fun h3 => ?_) fun h3 => ?_
    · exact brT rfl (rz G3 i hi6 eH (hsc.trans (scan_bad fun n s _ => .inl (by omega))))
    refine ⟨_, .inl (SqL.of kp), brN (fun hw => ?_) fun hw => ?_⟩
    · exact brT rfl (rz G3 i hi6 eH (hsc.trans (scan_bad fun n s e => absurd (by rw [e]; rfl) hw)))
    obtain ⟨n, s, e⟩ : ∃ n s, Txt.split l " " = [n, s] := (two_of (l := l)).resolve_right (fun z => z (by
      have : ((((Txt.split l " ").map V.str).length : Nat) : Int) = 2 := hw
      rw [List.length_map] at this
      omega))
    rw [e] at kp
    have hn16 : n.length < 16777216 := by
      have := part_len (t := l) (s := " ") (x := n) (by rw [e]; simp)
      omega
    have hs16 : s.length < 16777216 := by
      have := part_len (t := l) (s := " ") (x := s) (by rw [e]; simp)
      omega
    have hss : s.length ≤ sizeLine := by rw [sizeLine_eq]; omega
    have sb : (nameOk n = false ∨ n ∈ ns ∨ rowOk s = false ∨ (0 < i ∧ s.length ≠ (ss.getD 0 "").length)) → scan 0 [] [] (linesOf t) = .inl (i + 1) := fun z => hsc.trans (scan_bad fun n' s' e' => by
      rw [e] at e'
      cases e'
      exact .inr z)
    refine ⟨_, .str n, .inl (SqL.of kp), rfl, n, rfl, hn16, hb, fun G4 e4 => ?_⟩
    have eH4 := eH.trans e4
    refine br (fun hn => ?_) fun hn => ?_
    · exact brT rfl (rz G4 i hi6 eH4 (sb (.inl (by simpa using hn))))
    have hn : nameOk n = true := by simpa using hn
    have k1 := e4 _ _ (eG3 _ _ g1)
    have k2 := e4 _ _ (eG3 _ _ g2)
    have kr := e4 _ _ (eG3 _ _ gr)
    have kw := e4 _ _ kp
    refine ⟨_, .str n, .inl (SqL.of kw), rfl, _, .inl (SqL.of k1), rfl, flat_strs, ?_⟩
    rw [inV_str]
    refine brD (fun hm => ?_) fun hm => ?_
    · exact rz G4 i hi6 eH4 (sb (.inr (.inl hm)))
    refine ⟨_, .str s, .inl (SqL.of kw), rfl, ?_⟩
    refine ⟨hss, brD (fun r1 => ?_) fun r1 => ?_⟩
    · refine brN (fun r2 => ?_) fun r2 => ?_
      · exact brT rfl (rz G4 i hi6 eH4 (sb (.inr (.inr (.inl (by
          unfold rowOk
          have a2 : ¬ s.length ≤ 1000 := by omega
          simp [a2]))))))
      · dsimp only [yNot, yTst, tCB, tCons]
        refine lc_str (z := s) (fun c => .bl (decide (c ∈ ("#." : Str).cps.toList))) (by intro R; rfl) (by rw [sizeLine_eq]; exact hs16) (by intro x; rfl) (fun D H' c Q' _ _ _ hq => ⟨c, rfl, hq⟩) fun D hD => ?_
        refine ⟨s.cps.toList.map fun c => decide (c ∈ ("#." : Str).cps.toList), SqL.of (by rw [upd_same, List.map_map]; rfl), ?_⟩
        rw [allIn_map]
        have e5 : Ext G4 (upd G4 D (.lst (s.cps.toList.map fun c => V.bl (decide (c ∈ ("#." : Str).cps.toList))))) := Ext.new hD
        have nD1 : D ≠ a1 := fun z => by rw [z, k1] at hD; cases hD
        have nD2 : D ≠ a2 := fun z => by rw [z, k2] at hD; cases hD
        generalize upd G4 D (.lst (s.cps.toList.map fun c => V.bl (decide (c ∈ ("#." : Str).cps.toList)))) = G5 at e5 ⊢
        have eH5 := eH4.trans e5
        have er : rowOk s = allIn "#." s := by
          unfold rowOk
          have a1 : 1 ≤ s.length := by omega
          have a2 : s.length ≤ 1000 := by omega
          simp [a1, a2]
        refine br (fun hr => ?_) fun hr => ?_
        · exact rz G5 i hi6 eH5 (sb (.inr (.inr (.inl (by rw [er]; simpa using hr)))))
        have hr : rowOk s = true := by rw [er]; simpa using hr
        have k1 := e5 _ _ k1
        have k2 := e5 _ _ k2
        have kr := e5 _ _ kr
        have kw := e5 _ _ kw
        have next : ¬ (0 < i ∧ s.length ≠ (ss.getD 0 "").length) → scan 0 [] [] (linesOf t) = scan (i + 1) (ns ++ [n]) (ss ++ [s]) ((linesOf t).drop (i + 1)) := fun z => hsc.trans (scan_good e (by
          rintro (a | a | a | a | a)
          · omega
          · rw [hn] at a; cases a
          · exact hm a
          · rw [hr] at a; cases a
          · exact z a))
        have go : scan 0 [] [] (linesOf t) = scan (i + 1) (ns ++ [n]) (ss ++ [s]) ((linesOf t).drop (i + 1)) →
            tSeq (tDrop (tBM K "list" zApp (yVar 1) (tCons (tOp (zIxL K) (yVar 5) (tC (.int 0))) tNil))) (tDrop (tBM K "list" zApp (yVar 2) (tCons (yVar 6) tNil)))
              { (dEnd Q) with nx := (fun σ G => ∃ (ns ss : List Str) (x3 x4 x5 x6 x7 : Option V), σ = [some (.str t), some (.ref a1), some (.ref a2), x3, x4, x5, x6, x7] ∧ Ext H G ∧ G a1 = some (.lst (ns.map V.str)) ∧ G a2 = some (.lst (ss.map V.str)) ∧ G r = some (.lst ((linesOf t).map V.str)) ∧
                scan 0 [] [] (linesOf t) = scan (i + 1) ns ss ((linesOf t).drop (i + 1)) ∧ ns.length = i + 1 ∧ ss.length = i + 1 ∧ i + 1 ≤ 3 ∧ (∀ n ∈ ns, nameOk n = true) ∧ ∀ s ∈ ss, rowOk s = true) }
              [some (.str t), some (.ref a1), some (.ref a2), some (.int (i : Nat)), some (.str l), some (.ref p), some (.str s), x7] G5 := fun hgo => by
          refine ⟨tyL k1, _, .str n, .inl (SqL.of kw), rfl, _, k1, ?_, ?_⟩
          · rw [List.length_map, sizeLine_eq]
            omega
          refine ⟨tyL (by rw [upd_ne n12.symm]; exact k2), _, by rw [upd_ne n12.symm]; exact k2, ?_, ?_⟩
          · rw [List.length_map, sizeLine_eq]
            omega
          refine ⟨ns ++ [n], ss ++ [s], _, _, _, _, _, rfl, (eH5.mut n1).mut n2', ?_, ?_, ?_, hgo, by simp [l1], by simp [l2], by omega, fun m hm2 => ?_, fun m hm2 => ?_⟩
          · rw [upd_ne n12, upd_same, List.map_append]
            rfl
          · rw [upd_same, List.map_append]
            rfl
          · rw [upd_ne nr2, upd_ne nr1]
            exact kr
          · rcases List.mem_append.mp hm2 with z | z
            · exact hok m z
            · have : m = n := by simpa using z
              rw [this]
              exact hn
          · rcases List.mem_append.mp hm2 with z | z
            · exact hok2 m z
            · have : m = s := by simpa using z
              rw [this]
              exact hr
        refine brD (fun hpos => ?_) fun hpos => ?_
        · obtain ⟨s0, sr, es⟩ : ∃ s0 sr, ss = s0 :: sr := by
            cases hss2 : ss with
            | nil => rw [hss2] at l2; simp at l2; omega
            | cons a b => exact ⟨a, b, rfl⟩
          subst es
          have hs0 : s0.length ≤ sizeLine := by
            have q := hok2 s0 (by simp)
            unfold rowOk at q
            simp only [Bool.and_eq_true, decide_eq_true_eq] at q
            rw [sizeLine_eq]
            omega
          have hpos : 0 < i := by omega
          refine ⟨hss, _, .str s0, .inl (SqL.of k2), atI_nat (j := 0) rfl, hs0, brN (fun hne => ?_) fun heq => ?_⟩
          · exact rz G5 i hi6 eH5 (sb (.inr (.inr (.inr ⟨hpos, fun z => hne (by
              have z : s.length = s0.length := z
              rw [z])⟩))))
          · exact go (next fun z => z.2 (by
              show s.length = s0.length
              omega))
        · exact brF rfl (go (next fun z => by omega))
    · exact brT rfl (brT rfl (rz G4 i hi6 eH4 (sb (.inr (.inr (.inl (by
          unfold rowOk
          have a2 : ¬ 1 ≤ s.length := by omega
          simp [a2])))))))
  · rintro σ G ⟨ns, ss, x3, x4, x5, x6, x7, rfl, eG, g1, g2, gr, hsc, l1, l2, l3, hok, hok2⟩
    have hdz : (linesOf t).drop ((linesOf t).map V.str).length = [] := List.drop_of_length_le (by rw [List.length_map]; exact Nat.le_refl _)
    rw [hdz] at hsc
    refine ⟨Nat.zero_le _, fun p np => ⟨.list ((ns.map V.str).map dataV), .list [], .lst (SqL.of ((Ext.new np) _ _ g1)) (dpAll_flat flat_strs), .lst (SqL.of upd_same) .nil, shaped_flatL ?_, by decide, ?_⟩⟩
    · exact List.all_eq_true.mpr fun z hz => by
        obtain ⟨y, hy, rfl⟩ := List.mem_map.mp hz
        exact nameOk_lay (hok y hy)
    have eP : Ext G (upd G p (.lst [])) := Ext.new np
    generalize upd G p (.lst []) = G1 at eP ⊢
    cases ns with
    | nil => exact brT (by decide) (rz G1 0 (by decide) (eG.trans eP) hsc)
    | cons n nr' =>
      refine brF (by simp [PyData.eqv, PyData.eqvAll]) fun x dx nx ndx hne => ?_
      have g1' := eP _ _ g1
      have g2' := eP _ _ g2
      have m1 : a1 ≠ x := fun z => by rw [← z, g1'] at nx; cases nx
      have m2 : a2 ≠ x := fun z => by rw [← z, g2'] at nx; cases nx
      refine ⟨x, a1, a2, dx, _, _, rfl, upd_same, (.inl (by rw [upd_ne m1, upd_ne (ne_of_none g1' ndx)]; exact g1')), (.inl (by rw [upd_ne m2, upd_ne (ne_of_none g2' ndx)]; exact g2')), fun t1 t2 H' eb ha h1 h2 => ⟨rfl, qQ _ ss hsc x H' (fun b o hb => ?_) ((eG.trans eP).back nx) ⟨dx, t1, t2, ha, h1, h2⟩⟩⟩
      have hb' := eP _ _ (eG _ _ hb)
      have hbx : b ≠ x := fun z => by rw [z, nx] at hb'; cases hb'
      exact eb b o hbx (by rw [upd_ne hbx, upd_ne (ne_of_none hb' ndx)]; exact hb')
end
end Eb

namespace Eb
open PySem PySem.Spec PyProof.Rows L2
def lineOf (n s : Str) : Str := Str.empty ++ n ++ " " ++ s
def txtOf (ns ss : List Str) : Str := Txt.join "\n" (List.zipWith lineOf ns ss)
theorem empty_app (x : Str) : Str.empty ++ x = x := by
  apply Str.ext'
  show (#[] ++ x.cps) = x.cps
  simp
theorem lineOf_split {l n s : Str} (e : Txt.split l " " = [n, s]) : lineOf n s = l := by
  have q := StrLaws.join_split l " "
  rw [e] at q
  unfold lineOf
  rw [empty_app]
  exact q
theorem zipWith_snoc {α β γ : Type} (f : α → β → γ) : ∀ {as : List α} {bs : List β} {a : α} {b : β}, as.length = bs.length → List.zipWith f (as ++ [a]) (bs ++ [b]) = List.zipWith f as bs ++ [f a b]
  | [], [], _, _, _ => rfl
  | x :: as, y :: bs, a, b, h => by
    show f x y :: List.zipWith f (as ++ [a]) (bs ++ [b]) = _
    rw [zipWith_snoc f (by simpa using h)]
    rfl
theorem sum_len_le {b : Nat} : ∀ {xs : List Str}, (∀ x ∈ xs, x.length ≤ b) → (xs.map (·.length)).sum ≤ xs.length * b
  | [], _ => Nat.zero_le _
  | x :: r, h => by
    have h1 := h x (by simp)
    have h2 := sum_len_le (b := b) (xs := r) fun y hy => h y (by simp [hy])
    rw [List.map_cons, List.sum_cons, List.length_cons, Nat.succ_mul]
    omega
theorem scan_ok : ∀ (r : List Str) (i : Nat) (ns ss ns' ss' : List Str), scan i ns ss r = .inr (ns', ss') → (∀ n ∈ ns, nameOk n = true) → (∀ s ∈ ss, rowOk s = true) → ns.length = i → ss.length = i → i ≤ 3 →
    (∀ n ∈ ns', nameOk n = true) ∧ (∀ s ∈ ss', rowOk s = true) ∧ ns'.length = ss'.length ∧ ns'.length ≤ 3 ∧ ns' ≠ [] ∧ List.zipWith lineOf ns' ss' = List.zipWith lineOf ns ss ++ r
  | [], i, ns, ss, ns', ss', h, h1, h2, h3, h4, h5 => by
    have h : (if ns = [] then (.inl 1 : Nat ⊕ (List Str × List Str)) else .inr (ns, ss)) = .inr (ns', ss') := h
    by_cases e : ns = []
    · rw [if_pos e] at h
      cases h
    · rw [if_neg e] at h
      cases h
      exact ⟨h1, h2, by omega, by omega, e, by simp⟩
  | l :: r, i, ns, ss, ns', ss', h, h1, h2, h3, h4, h5 => by
    by_cases hb : ∀ n s, Txt.split l " " = [n, s] → i = 3 ∨ nameOk n = false ∨ n ∈ ns ∨ rowOk s = false ∨ (0 < i ∧ s.length ≠ (ss.getD 0 "").length)
    · rw [scan_bad hb] at h
      cases h
    · obtain ⟨n, hb⟩ := Classical.not_forall.mp hb
      obtain ⟨s, hb⟩ := Classical.not_forall.mp hb
      obtain ⟨e, hb⟩ := Classical.not_imp.mp hb
      rw [scan_good e hb] at h
      have hi : i ≠ 3 := fun z => hb (.inl z)
      have hn : nameOk n = true := by
        cases z : nameOk n with
        | true => rfl
        | false => exact absurd (.inr (.inl z)) hb
      have hs : rowOk s = true := by
        cases z : rowOk s with
        | true => rfl
        | false => exact absurd (.inr (.inr (.inr (.inl z)))) hb
      obtain ⟨a1, a2, a3, a4, a5, a6⟩ := scan_ok r (i + 1) _ _ ns' ss' h (fun m hm => by
        rcases List.mem_append.mp hm with z | z
        · exact h1 m z
        · rw [show m = n by simpa using z]; exact hn) (fun m hm => by
        rcases List.mem_append.mp hm with z | z
        · exact h2 m z
        · rw [show m = s by simpa using z]; exact hs) (by simp [h3]) (by simp [h4]) (by omega)
      refine ⟨a1, a2, a3, a4, a5, ?_⟩
      rw [a6, zipWith_snoc lineOf (by omega), lineOf_split e, List.append_assoc]
      rfl
theorem scan_text {t : Str} {ns ss : List Str} (h : scan 0 [] [] (linesOf t) = .inr (ns, ss)) : txtOf ns ss = t := by
  obtain ⟨_, _, _, _, a5, a6⟩ := scan_ok _ 0 [] [] ns ss h (fun n z => by cases z) (fun n z => by cases z) rfl rfl (by decide)
  have a6 : List.zipWith lineOf ns ss = linesOf t := a6
  unfold txtOf
  rw [a6]
  unfold linesOf at h ⊢
  by_cases e : t = ""
  · rw [if_pos e] at h
    cases h
  · rw [if_neg e]
    have q := StrLaws.join_split t "\n"
    rw [← StrLaws.glued_eq_join] at q
    exact q
def SheetAt (K : PySem.W.Frag) (H : Hp) (a : Addr) (ns ss : List Str) : Prop := ∃ dx t1 t2 d, H a = some (.ins (He.ga K "Sheet") dx [("tracks", .ref t1), ("signs", .ref t2), ("row_of", .ref d), ("text", .str (txtOf ns ss))]) ∧
  H t1 = some (.tup (ns.map V.str)) ∧ H t2 = some (.tup (ss.map V.str)) ∧ H d = some (.dK (mergeK [] (zipK ns (ss.map V.str))))
/-- rows that make a sheet -/
structure RowsOk (ns ss : List Str) : Prop where
  len : ns.length = ss.length
  three : ns.length ≤ 3
  nm : ∀ n ∈ ns, n.length ≤ 12
  row : ∀ s ∈ ss, s.length ≤ 1000000
section
variable {K : PySem.W.Frag} {vs : List V} {H : Hp} {Q : VK} {E : XK}
/-- a sheet of a text, or of rows -/
def sp_Sheet_init (K : PySem.W.Frag) : Sp := fun vs H Q E => ∃ (a dx : Addr), H a = some (.ins (He.ga K "Sheet") dx []) ∧
  ((∃ t : Str, vs = [.ref a, .str t] ∧ t.length + 2 ≤ 16777216 ∧ (∀ H, SqT K H (He.ga K "BARRED") (BARRED.map V.str)) ∧ PySem.W.kitOne K (.type "str") (.ref (He.ga K "Rows")) = some false ∧
    (∀ n, scan 0 [] [] (linesOf t) = .inl n → ∀ (d : Addr) (H' : Hp), Ext H H' → H d = none → H' d = some (.xd [("line", .int (n : Int))]) → E (.ref (He.ga K "BadSheet")) (some d) H') ∧
    (∀ ns ss, scan 0 [] [] (linesOf t) = .inr (ns, ss) → ∀ H' : Hp, ExtB a H H' → SheetAt K H' a ns ss → Q .non H')) ∨
   ∃ (r : Addr) (ns ss : List Str), vs = [.ref a, .ref r] ∧ RowsAt K H r ns ss ∧ RowsOk ns ss ∧ PlainC K (He.ga K "Rows") ∧ PySem.W.kitOne K (.ref (He.ga K "Rows")) (.ref (He.ga K "Rows")) = some true ∧ ∀ H' : Hp, ExtB a H H' → SheetAt K H' a ns ss → Q .non H')
theorem len_Sheet_init (h : sp_Sheet_init K vs H Q E) : vs.length = 2 := by
  obtain ⟨_, _, _, ⟨_, rfl, _⟩ | ⟨_, _, _, rfl, _⟩⟩ := h <;> rfl
def N_Sheet_init : List Str := ["self", "text", "rows", "track", "row"]
def t_Sheet_init (K : PySem.W.Frag) (E : XK) : TS :=
  (tSeq (tAsg (yIfE (yTst (tCB (zIsO K) (tCons (yVar 1) (tCons (tC (.ref (He.ga K "Rows"))) tNil)))) (yVar 1) (yCallS (sp_p_read_rows K) (fun cls d _ H => E cls d H) (tCons (yVar 1) tNil))) (gName 2))
    (tSeq (yPutF (isC K ["Sheet"]) (yVar 0) (yFld (isC K ["Rows"]) (yVar 2) "tracks") "tracks")
    (tSeq (yPutF (isC K ["Sheet"]) (yVar 0) (yFld (isC K ["Rows"]) (yVar 2) "signs") "signs")
    (tSeq (yPutF (isC K ["Sheet"]) (yVar 0) (yDictZip K (yFld (isC K ["Rows"]) (yVar 2) "tracks") (yFld (isC K ["Rows"]) (yVar 2) "signs")) "row_of")
    (yPutF (isC K ["Sheet"]) (yVar 0) (tBM K "str" (zJoin K) (tC (.str "\n")) (tCons (yLc (jZipT K (yFld (isC K ["Rows"]) (yVar 2) "tracks") (yFld (isC K ["Rows"]) (yVar 2) "signs")) (gTup K 2 (gCons (gName 3) (gCons (gName 4) gNil))) tYes (yJoin ((yFmt (yVar 3)) :: ((tC (.str " ")) :: ((yFmt (yVar 4)) :: [])))) [3, 4]) tNil)) "text")))))
def t_Sheet_tail (K : PySem.W.Frag) (E : XK) : TS :=
  (tSeq (yPutF (isC K ["Sheet"]) (yVar 0) (yFld (isC K ["Rows"]) (yVar 2) "tracks") "tracks")
    (tSeq (yPutF (isC K ["Sheet"]) (yVar 0) (yFld (isC K ["Rows"]) (yVar 2) "signs") "signs")
    (tSeq (yPutF (isC K ["Sheet"]) (yVar 0) (yDictZip K (yFld (isC K ["Rows"]) (yVar 2) "tracks") (yFld (isC K ["Rows"]) (yVar 2) "signs")) "row_of")
    (yPutF (isC K ["Sheet"]) (yVar 0) (tBM K "str" (zJoin K) (tC (.str "\n")) (tCons (yLc (jZipT K (yFld (isC K ["Rows"]) (yVar 2) "tracks") (yFld (isC K ["Rows"]) (yVar 2) "signs")) (gTup K 2 (gCons (gName 3) (gCons (gName 4) gNil))) tYes (yJoin ((yFmt (yVar 3)) :: ((tC (.str " ")) :: ((yFmt (yVar 4)) :: [])))) [3, 4]) tNil)) "text"))))
theorem tail_Sheet {H1 : Hp} {x1 : Option V} {a dx rows : Addr} {ns ss : List Str} (ok : RowsOk ns ss) (ha1 : H1 a = some (.ins (He.ga K "Sheet") dx [])) (hR : RowsAt K H1 rows ns ss) (qQ : ∀ H' : Hp, ExtB a H1 H' → SheetAt K H' a ns ss → Q .non H') :
    t_Sheet_tail K E (dEnd Q) [some (.ref a), x1, some (.ref rows), none, none] H1 := by
  obtain ⟨o4, o3, _, _⟩ := id ok
  obtain ⟨rdx, t1, t2, r0, r1, r2⟩ := hR
  have nra : rows ≠ a := fun z => by rw [z, ha1] at r0; injection (Option.some.inj r0) with _ _ h; cases h
  have n1a : t1 ≠ a := fun z => by rw [z, ha1] at r1; cases r1
  have n2a : t2 ≠ a := fun z => by rw [z, ha1] at r2; cases r2
  refine ⟨_, rdx, _, _, r0, rfl, rfl, _, dx, [], ha1, rfl, by decide, ?_⟩
  refine ⟨_, rdx, _, _, by rw [upd_ne nra]; exact r0, rfl, rfl, _, dx, [("tracks", .ref t1)], upd_same, rfl, (show 1 < 1000 by decide), ?_⟩
  rw [upd_idem]
  refine ⟨_, rdx, _, .ref t1, by rw [upd_ne nra]; exact r0, rfl, rfl, _, rdx, _, .ref t2, by rw [upd_ne nra]; exact r0, rfl, rfl, ns, ss.map V.str, SqT.of (by rw [upd_ne n1a]; exact r1), SqT.of (by rw [upd_ne n2a]; exact r2), by omega, fun d nd => ?_⟩
  have nda : d ≠ a := fun z => by rw [z, upd_same] at nd; cases nd
  have nd1 : H1 d = none := by rw [upd_ne nda] at nd; exact nd
  refine ⟨_, dx, [("tracks", .ref t1), ("signs", .ref t2)], by rw [upd_ne nda.symm, upd_same]; rfl, rfl, (show 2 < 1000 by decide), ?_⟩
  have g0 : ∀ (fs : List (Str × V)), (upd (upd (upd H1 a (.ins (He.ga K "Sheet") dx (putF "signs" (.ref t2) [("tracks", .ref t1)]))) d (.dK (mergeK [] (zipK ns (ss.map V.str))))) a (.ins (He.ga K "Sheet") dx fs)) = upd (upd H1 d (.dK (mergeK [] (zipK ns (ss.map V.str))))) a (.ins (He.ga K "Sheet") dx fs) := fun fs => by
    funext b
    by_cases h1 : b = a
    · rw [h1, upd_same, upd_same]
    · rw [upd_ne h1, upd_ne h1]
      by_cases h2 : b = d
      · rw [h2, upd_same, upd_same]
      · rw [upd_ne h2, upd_ne h2, upd_ne h1]
  rw [g0]
  have G0 : ExtB a H1 (upd (upd H1 d (.dK (mergeK [] (zipK ns (ss.map V.str))))) a (.ins (He.ga K "Sheet") dx (putF "row_of" (.ref d) [("tracks", .ref t1), ("signs", .ref t2)]))) := fun b o hb hx => by
    rw [upd_ne hb]
    exact (Ext.new nd1) _ _ hx
  have ga : (upd (upd H1 d (.dK (mergeK [] (zipK ns (ss.map V.str))))) a (.ins (He.ga K "Sheet") dx (putF "row_of" (.ref d) [("tracks", .ref t1), ("signs", .ref t2)]))) a = some (.ins (He.ga K "Sheet") dx [("tracks", .ref t1), ("signs", .ref t2), ("row_of", .ref d)]) := by rw [upd_same]; rfl
  have gr : (upd (upd H1 d (.dK (mergeK [] (zipK ns (ss.map V.str))))) a (.ins (He.ga K "Sheet") dx (putF "row_of" (.ref d) [("tracks", .ref t1), ("signs", .ref t2)]))) rows = some (.ins (He.ga K "Rows") rdx [("tracks", .ref t1), ("signs", .ref t2)]) := by rw [upd_ne nra]; exact (Ext.new nd1) _ _ r0
  have g1 : (upd (upd H1 d (.dK (mergeK [] (zipK ns (ss.map V.str))))) a (.ins (He.ga K "Sheet") dx (putF "row_of" (.ref d) [("tracks", .ref t1), ("signs", .ref t2)]))) t1 = some (.tup (ns.map V.str)) := by rw [upd_ne n1a]; exact (Ext.new nd1) _ _ r1
  have g2 : (upd (upd H1 d (.dK (mergeK [] (zipK ns (ss.map V.str))))) a (.ins (He.ga K "Sheet") dx (putF "row_of" (.ref d) [("tracks", .ref t1), ("signs", .ref t2)]))) t2 = some (.tup (ss.map V.str)) := by rw [upd_ne n2a]; exact (Ext.new nd1) _ _ r2
  have gd : (upd (upd H1 d (.dK (mergeK [] (zipK ns (ss.map V.str))))) a (.ins (He.ga K "Sheet") dx (putF "row_of" (.ref d) [("tracks", .ref t1), ("signs", .ref t2)]))) d = some (.dK (mergeK [] (zipK ns (ss.map V.str)))) := by rw [upd_ne nda, upd_same]
  generalize upd (upd H1 d (.dK (mergeK [] (zipK ns (ss.map V.str))))) a (.ins (He.ga K "Sheet") dx (putF "row_of" (.ref d) [("tracks", .ref t1), ("signs", .ref t2)])) = G at G0 ga gr g1 g2 gd ⊢
  have zl : (List.zipWith lineOf ns ss).length ≤ 3 := by rw [List.length_zipWith]; omega
  have hnl := ok.nm
  have hsl := ok.row
  refine ⟨tyS, _, rdx, _, .ref t1, gr, rfl, rfl, _, rdx, _, .ref t2, gr, rfl, rfl, _, _, SqT.of g1, SqT.of g2, fun D hD => ⟨fun i acc G' => acc = ((List.zipWith lineOf ns ss).take i).map V.str ∧ Ext G G' ∧ G' D = some (.lst acc), ⟨by simp, Ext.new hD, upd_same⟩, fun i acc G' hi ⟨c1, c2, c3⟩ => ?_, ?_, ?_⟩⟩
  · refine ⟨⟨SqT.of (c2 _ _ g1), SqT.of (c2 _ _ g2)⟩, c3, ?_⟩
    rw [c1, List.length_map, List.length_take, sizeLine_eq]
    omega
  · rintro i x acc G' G2 hi ⟨c1, c2, c3⟩ ⟨T, x', y', rfl, nT, rfl, ex, ey⟩
    have ex : (ns.map V.str)[i]? = some x' := ex
    have ey : (ss.map V.str)[i]? = some y' := ey
    rw [List.getElem?_map] at ex ey
    obtain ⟨n, hn, rfl⟩ := Option.map_eq_some_iff.mp ex
    obtain ⟨s, hs', rfl⟩ := Option.map_eq_some_iff.mp ey
    have ln := hnl n (List.mem_of_getElem? hn)
    have ls := hsl s (List.mem_of_getElem? hs')
    have q1 : (Str.empty ++ n).length ≤ 12 := by rw [empty_app]; exact ln
    have q2 : (Str.empty ++ n ++ " ").length ≤ 13 := by
      rw [Str.length_append]
      have : ((" " : Str)).length = 1 := rfl
      omega
    have q3 : (Str.empty ++ n ++ " " ++ s).length ≤ 1000013 := by
      rw [Str.length_append]
      omega
    refine ⟨T, _, rfl, SqT.of upd_same, rfl, _, _, rfl, _, _, rfl, rfl, rfl, brT rfl ⟨by omega, by omega, by omega, by omega, by omega, ?_⟩⟩
    have nDT : D ≠ T := fun z => by rw [z, nT] at c3; cases c3
    have hz : (List.zipWith lineOf ns ss)[i]? = some (lineOf n s) := by
      rw [List.getElem?_zipWith, hn, hs']
    refine ⟨by rw [upd_ne nDT]; exact c3, ?_, (c2.trans (Ext.new nT)).mut hD, upd_same⟩
    have hlt : i < (List.zipWith lineOf ns ss).length := (List.getElem?_eq_some_iff.mp hz).1
    have hz2 : (List.zipWith lineOf ns ss)[i] = lineOf n s := Option.some.inj ((List.getElem?_eq_getElem hlt).symm.trans hz)
    rw [List.take_succ_eq_append_getElem hlt, List.map_append, c1, hz2]
    rfl
  · rintro acc G' ⟨c1, c2, c3⟩
    have hmn : min (ns.map V.str).length (ss.map V.str).length = (List.zipWith lineOf ns ss).length := by
      rw [List.length_zipWith, List.length_map, List.length_map]
    rw [hmn, List.take_length] at c1
    subst c1
    refine ⟨List.zipWith lineOf ns ss, .inl (SqL.of c3), ?_, _, dx, _, c2 _ _ ga, rfl, (show 3 < 1000 by decide), ?_⟩
    · have hb : ∀ x ∈ List.zipWith lineOf ns ss, x.length ≤ 1000013 := fun x hx => by
        obtain ⟨i, hi, rfl⟩ := List.mem_iff_getElem.mp hx
        rw [List.getElem_zipWith]
        rw [List.length_zipWith] at hi
        have ln := hnl _ (List.getElem_mem (l := ns) (n := i) (by omega))
        have ls := hsl _ (List.getElem_mem (l := ss) (n := i) (by omega))
        unfold lineOf
        rw [Str.length_append, Str.length_append, empty_app]
        have : ((" " : Str)).length = 1 := rfl
        omega
      have h1 := sum_len_le hb
      have h2 : (List.zipWith lineOf ns ss).length * 1000013 ≤ 3 * 1000013 := Nat.mul_le_mul_right _ zl
      have h3 : (("\n" : Str)).length = 1 := rfl
      rw [h3]
      omega
    · refine qQ _ (fun b o hb hx => by rw [upd_ne hb]; exact c2 _ _ (G0 b o hb hx)) ⟨dx, t1, t2, d, by rw [upd_same]; rfl, ?_, ?_, ?_⟩
      · rw [upd_ne n1a]; exact c2 _ _ g1
      · rw [upd_ne n2a]; exact c2 _ _ g2
      · rw [upd_ne nda]; exact c2 _ _ gd
theorem pure_Sheet_init (h : sp_Sheet_init K vs H Q E) : t_Sheet_init K E (dEnd Q) (start N_Sheet_init vs) H := by
  obtain ⟨a, dx, ha, ⟨t, rfl, hl, hb, hk, qE, qQ⟩ | ⟨r, ns, ss, rfl, hR, ok, pc, hk, qQ⟩⟩ := h
  · refine ⟨false, hk, brF rfl ⟨t, rfl, hl, hb, qE, fun ns ss hs rows H1 e1 nr hR => ?_⟩⟩
    obtain ⟨o1, o2, o3, o4, o5, o6⟩ := scan_ok _ 0 [] [] ns ss hs (fun n z => by cases z) (fun n z => by cases z) rfl rfl (by decide)
    refine tail_Sheet (E := E) ⟨by omega, by omega, fun n hn => ?_, fun s hs => ?_⟩ (e1 _ _ ha) hR fun H' eb hS => qQ ns ss hs H' (fun b o hb hx => eb b o hb (e1 _ _ hx)) hS
    · have := o1 n hn
      unfold nameOk at this
      simp only [Bool.and_eq_true, decide_eq_true_eq] at this
      exact this.2.1
    · have := o2 s hs
      unfold rowOk at this
      simp only [Bool.and_eq_true, decide_eq_true_eq] at this
      omega
  · obtain ⟨rdx, t1, t2, r0, r1, r2⟩ := id hR
    exact ⟨_, true, pc.ty r0, hk, brT rfl (tail_Sheet (E := E) ok ha hR qQ)⟩
end
section
variable {P : Program} {w : World} {K : PySem.W.Frag} {mg : Str → Option Value} {base : Heap}
abbrev s_p_lines_of : Stmt := top 12
theorem sc_p_lines_of : FnScope N_p_lines_of ["text"] (defScope s_p_lines_of) := ⟨rfl, rfl, rfl, by decide +kernel, rfl, by decide +kernel, by decide +kernel⟩
theorem ok_p_lines_of {f : Addr} {fd : FuncData} (B : Blt mg)   (F : FunD K "lines_of" "lines_of" (defArgs s_p_lines_of) (defBody s_p_lines_of) (defScope s_p_lines_of) [] [] f fd) : FnOk P w K mg base (L2.CX P w) 1 f fd ["text"] (sp_p_lines_of K) := by
  refine F.ok sc_p_lines_of (fun vs H Q E h => len_p_lines_of h) (fun cdv A outer s H vs Q E hr h => ⟨t_p_lines_of K E, ?_, pure_p_lines_of h⟩)
  exact (pss_one (ps_ret (ye_if (yt_cmp op_zEq (yv 0) pe_str (by rfl)) (pe_lst pa_nil) (pe_bm PySem.F.plainAttrs_str PySem.F.slot_str_split PySem.F.type_str_split mt_zSplit (yv 0) (pa_cons pe_str pa_nil)))))
abbrev s_p_is_name : Stmt := top 13
theorem sc_p_is_name : FnScope N_p_is_name ["word"] (defScope s_p_is_name) := ⟨rfl, rfl, rfl, by decide +kernel, rfl, by decide +kernel, by decide +kernel⟩
theorem ok_p_is_name {f : Addr} {fd : FuncData} (B : Blt mg)   (k_LETTERS : ∃ u, mg "LETTERS" = some u ∧ RelV (.str "abcdefghijklmnopqrstuvwxyz") u) (k_BARRED : ∃ u, mg "BARRED" = some u ∧ RelV (.ref (He.ga K "BARRED")) u) (k_LONGEST : ∃ u, mg "LONGEST" = some u ∧ RelV (.int 12) u) (F : FunD K "is_name" "is_name" (defArgs s_p_is_name) (defBody s_p_is_name) (defScope s_p_is_name) [] [] f fd) : FnOk P w K mg base (L2.CX P w) 1 f fd ["word"] (sp_p_is_name K) := by
  refine F.ok sc_p_is_name (fun vs H Q E h => len_p_is_name h) (fun cdv A outer s H vs Q E hr h => ⟨t_p_is_name K E, ?_, pure_p_is_name h⟩)
  exact (pss_one (ps_ret (ye_and (ye_chain op_zLe op_zLe pe_int (pe_callB cr_len rfl B.len boot_len (pa_cons (yv 0) pa_nil)) (pe_globE rfl k_LONGEST)) (ye_and (pe_cmpR op_zNotIn (yv 0) (pe_globE rfl k_BARRED) (by rfl)) (pe_one (pe_callB cr_all rfl B.all (by decide +kernel) (pa_cons (ye_lc (own := [("sign", 1)]) (g := (gName 1)) (tt := tYes) rfl sc_p_is_name.nd (j_str (yv 0)) (blkOk_by (N := N_p_is_name) (sc := defScope s_p_is_name) (by decide +kernel)) (fun _ _ _ _ _ => (pg_name (i := 1) sc_p_is_name.nd rfl (by first | exact Or.inl rfl | exact Or.inr rfl))) (fun _ _ _ _ _ => pts_nil) (fun _ _ _ _ _ => (pe_cmpR op_zIn (yv 1) (pe_globE rfl k_LETTERS) (by rfl)))) pa_nil)))))))
abbrev s_Rows_init : Stmt := inClass (top 19) 0
theorem sc_Rows_init : FnScope N_Rows_init ["self", "tracks", "signs"] (defScope s_Rows_init) := ⟨rfl, rfl, rfl, by decide +kernel, rfl, by decide +kernel, by decide +kernel⟩
theorem ok_Rows_init {f : Addr} {fd : FuncData} (B : Blt mg)   (CF : ∀ x f, (x, f) ∈ fldN → Cls K (He.ga K x) ∧ NoAttr K (He.ga K x) f) (F : FunD K "__init__" "Rows.__init__" (defArgs s_Rows_init) (defBody s_Rows_init) (defScope s_Rows_init) [] [] f fd) : FnOk P w K mg base (L2.CX P w) 1 f fd ["self", "tracks", "signs"] (sp_Rows_init K) := by
  refine F.ok sc_Rows_init (fun vs H Q E h => len_Rows_init h) (fun cdv A outer s H vs Q E hr h => ⟨t_Rows_init K E, ?_, pure_Rows_init h⟩)
  exact (pss_cons (ys_fld (cf1 (CF "Rows" "tracks" (by decide))) (yv 0) (pe_callTy cr_tuple rfl B.tuple (by decide +kernel) (pa_cons (yv 1) pa_nil)) rfl)
    (pss_one (ys_fld (cf1 (CF "Rows" "signs" (by decide))) (yv 0) (pe_callTy cr_tuple rfl B.tuple (by decide +kernel) (pa_cons (yv 2) pa_nil)) rfl)))
abbrev s_p_read_rows : Stmt := top 20
theorem sc_p_read_rows : FnScope N_p_read_rows ["text"] (defScope s_p_read_rows) := ⟨rfl, rfl, rfl, by decide +kernel, rfl, by decide +kernel, by decide +kernel⟩
theorem ok_p_read_rows {f : Addr} {fd : FuncData} (B : Blt mg) (c_p_lines_of : Cal P w K mg base "lines_of" 1 ["text"] (sp_p_lines_of K)) (c_p_is_name : Cal P w K mg base "is_name" 1 ["word"] (sp_p_is_name K)) (c_Rows_init : OM P w K mg base "Rows" 1 ["self", "tracks", "signs"] (sp_Rows_init K)) (m_BadSheet : Mk P w K mg base "BadSheet" (He.ga K "BadSheet") ["self", "line"] (spI1 (He.ga K "BadSheet") "line" fmtOk))  (k_LINE_WORDS : ∃ u, mg "LINE_WORDS" = some u ∧ RelV (.int 2) u) (k_MOST_TRACKS : ∃ u, mg "MOST_TRACKS" = some u ∧ RelV (.int 3) u) (k_MOST_COLUMNS : ∃ u, mg "MOST_COLUMNS" = some u ∧ RelV (.int 1000) u) (F : FunD K "read_rows" "read_rows" (defArgs s_p_read_rows) (defBody s_p_read_rows) (defScope s_p_read_rows) [] [] f fd) : FnOk P w K mg base (L2.CX P w) 3 f fd ["text"] (sp_p_read_rows K) := by
  refine F.ok sc_p_read_rows (fun vs H Q E h => len_p_read_rows h) (fun cdv A outer s H vs Q E hr h => ⟨t_p_read_rows K E, ?_, pure_p_read_rows h⟩)
  have po := passes_of (X := cxOf (L2.CX P w) P w K mg base N_p_read_rows "read_rows" (defScope s_p_read_rows) f cdv A outer s H E) rfl
  have tk : Takes (cxOf (L2.CX P w) P w K mg base N_p_read_rows "read_rows" (defScope s_p_read_rows) f cdv A outer s H E) (fun cls d _ H => E cls d H) := takes_of rfl rfl rfl rfl
  exact (pss_cons (ps_set (i := 1) sc_p_read_rows.nd rfl (by first | exact Or.inl rfl | exact Or.inr rfl) (pe_lst pa_nil))
    (pss_cons (ps_set (i := 2) sc_p_read_rows.nd rfl (by first | exact Or.inl rfl | exact Or.inr rfl) (pe_lst pa_nil))
    (pss_cons (ys_for po rfl (j_enum rfl B.enumerate (ye_call c_p_lines_of (hr.mono (by decide)) rfl (pa_cons (yv 0) pa_nil))) (pg_tup rfl (pgs_cons (pg_name (i := 3) sc_p_read_rows.nd rfl (by first | exact Or.inl rfl | exact Or.inr rfl)) (pgs_cons (pg_name (i := 4) sc_p_read_rows.nd rfl (by first | exact Or.inl rfl | exact Or.inr rfl)) pgs_nil))) (pss_cons (ps_set (i := 5) sc_p_read_rows.nd rfl (by first | exact Or.inl rfl | exact Or.inr rfl) (pe_bm PySem.F.plainAttrs_str PySem.F.slot_str_split PySem.F.type_str_split mt_zSplit (yv 4) (pa_cons pe_str pa_nil)))
    (pss_cons (ys_if (PW.pt (yt_or (yt_cmp op_zEq (yv 3) (pe_globE rfl k_MOST_TRACKS) (by rfl)) (yt_or (yt_cmp op_zNe (pe_callB cr_len rfl B.len boot_len (pa_cons (yv 5) pa_nil)) (pe_globE rfl k_LINE_WORDS) (by rfl)) (yt_or (yt_not (yt_val (ye_call c_p_is_name (hr.mono (by decide)) rfl (pa_cons (pe_ix ix_zIxL (yv 5) pe_int (fun _ _ => rfl)) pa_nil)))) (pw_or1 (yt_cmp op_zIn (pe_ix ix_zIxL (yv 5) pe_int (fun _ _ => rfl)) (yv 1) (by rfl))))))) (pss_one (ys_raise rfl tk (pm_mk m_BadSheet (hr.mono (by decide)) rfl (pa_cons (pe_op op_zAdd (yv 3) pe_int) pa_nil)))) pss_nil)
    (pss_cons (ps_set (i := 6) sc_p_read_rows.nd rfl (by first | exact Or.inl rfl | exact Or.inr rfl) (pe_ix ix_zIxL (yv 5) pe_int (fun _ _ => rfl)))
    (pss_cons (ys_if (PW.pt (yt_or (yt_not (yt_chain op_zLe op_zLe pe_int (pe_callB cr_len rfl B.len boot_len (pa_cons (yv 6) pa_nil)) (pe_globE rfl k_MOST_COLUMNS))) (pw_or1 (yt_not (yt_val (pe_callB cr_all rfl B.all (by decide +kernel) (pa_cons (ye_lc (own := [("sign", 7)]) (g := (gName 7)) (tt := tYes) rfl sc_p_read_rows.nd (j_str (yv 6)) (blkOk_by (N := N_p_read_rows) (sc := defScope s_p_read_rows) (by decide +kernel)) (fun _ _ _ _ _ => (pg_name (i := 7) sc_p_read_rows.nd rfl (by first | exact Or.inl rfl | exact Or.inr rfl))) (fun _ _ _ _ _ => pts_nil) (fun _ _ _ _ _ => (pe_cmpR op_zIn (yv 7) pe_str (by rfl)))) pa_nil))))))) (pss_one (ys_raise rfl tk (pm_mk m_BadSheet (hr.mono (by decide)) rfl (pa_cons (pe_op op_zAdd (yv 3) pe_int) pa_nil)))) pss_nil)
    (pss_cons (ys_if (PW.pt (yt_and (yt_cmp op_zGt (yv 3) pe_int (by rfl)) (pw_and1 (yt_cmp op_zNe (pe_callB cr_len rfl B.len boot_len (pa_cons (yv 6) pa_nil)) (pe_callB cr_len rfl B.len boot_len (pa_cons (pe_ix ix_zIxL (yv 2) pe_int (fun _ _ => rfl)) pa_nil)) (by rfl))))) (pss_one (ys_raise rfl tk (pm_mk m_BadSheet (hr.mono (by decide)) rfl (pa_cons (pe_op op_zAdd (yv 3) pe_int) pa_nil)))) pss_nil)
    (pss_cons (ps_expr (pe_bm PySem.F.plainAttrs_list PySem.F.slot_list_append PySem.F.type_list_append mt_zApp (yv 1) (pa_cons (pe_ix ix_zIxL (yv 5) pe_int (fun _ _ => rfl)) pa_nil)))
    (pss_one (ps_expr (pe_bm PySem.F.plainAttrs_list PySem.F.slot_list_append PySem.F.type_list_append mt_zApp (yv 2) (pa_cons (yv 6) pa_nil)))))))))))
    (pss_cons (ys_if (yt_cmp (op_zEqD hr.units) (yv 1) (pe_lst pa_nil) (by rfl)) (pss_one (ys_raise rfl tk (pm_mk m_BadSheet (hr.mono (by decide)) rfl (pa_cons pe_int pa_nil)))) pss_nil)
    (pss_one (ps_ret (ye_new c_Rows_init tk0 (hr.mono (by decide)) rfl (pa_cons (yv 1) (pa_cons (yv 2) pa_nil)))))))))
abbrev s_Sheet_init : Stmt := inClass (top 21) 0
theorem sc_Sheet_init : FnScope N_Sheet_init ["self", "text"] (defScope s_Sheet_init) := ⟨rfl, rfl, rfl, by decide +kernel, rfl, by decide +kernel, by decide +kernel⟩
theorem ok_Sheet_init {f : Addr} {fd : FuncData} (B : Blt mg) (c_p_read_rows : Cal P w K mg base "read_rows" 3 ["text"] (sp_p_read_rows K))  (CF : ∀ x f, (x, f) ∈ fldN → Cls K (He.ga K x) ∧ NoAttr K (He.ga K x) f) (GC : ∀ x ∈ clsN, mg x = some (.ref (He.ga K x))) (F : FunD K "__init__" "Sheet.__init__" (defArgs s_Sheet_init) (defBody s_Sheet_init) (defScope s_Sheet_init) [] [] f fd) : FnOk P w K mg base (L2.CX P w) 4 f fd ["self", "text"] (sp_Sheet_init K) := by
  refine F.ok sc_Sheet_init (fun vs H Q E h => len_Sheet_init h) (fun cdv A outer s H vs Q E hr h => ⟨t_Sheet_init K E, ?_, pure_Sheet_init h⟩)
  have tk : Takes (cxOf (L2.CX P w) P w K mg base N_Sheet_init "Sheet.__init__" (defScope s_Sheet_init) f cdv A outer s H E) (fun cls d _ H => E cls d H) := takes_of rfl rfl rfl rfl
  exact (pss_cons (ps_set (i := 2) sc_Sheet_init.nd rfl (by first | exact Or.inl rfl | exact Or.inr rfl) (ye_if (yt_val (pe_callB cr_isO rfl B.isinstance (by decide +kernel) (pa_cons (yv 1) (pa_cons (pe_glob rfl (GC "Rows" (by decide)) rfl) pa_nil)))) (yv 1) (ye_callS c_p_read_rows tk (hr.mono (by decide)) rfl (pa_cons (yv 1) pa_nil))))
    (pss_cons (ys_fld (cf1 (CF "Sheet" "tracks" (by decide))) (yv 0) (ye_fld (cf1 (CF "Rows" "tracks" (by decide))) (yv 2) rfl) rfl)
    (pss_cons (ys_fld (cf1 (CF "Sheet" "signs" (by decide))) (yv 0) (ye_fld (cf1 (CF "Rows" "signs" (by decide))) (yv 2) rfl) rfl)
    (pss_cons (ys_fld (cf1 (CF "Sheet" "row_of" (by decide))) (yv 0) (ye_dictZip rfl B.dict rfl B.zip (ye_fld (cf1 (CF "Rows" "tracks" (by decide))) (yv 2) rfl) (ye_fld (cf1 (CF "Rows" "signs" (by decide))) (yv 2) rfl)) rfl)
    (pss_one (ys_fld (cf1 (CF "Sheet" "text" (by decide))) (yv 0) (pe_bm PySem.F.plainAttrs_str PySem.F.slot_str_join PySem.F.type_str_join mt_zJoin pe_str (pa_cons (ye_lc (own := [("track", 3), ("row", 4)]) (g := (gTup K 2 (gCons (gName 3) (gCons (gName 4) gNil)))) (tt := tYes) rfl sc_Sheet_init.nd (j_zipT rfl B.zip (ye_fld (cf1 (CF "Rows" "tracks" (by decide))) (yv 2) rfl) (ye_fld (cf1 (CF "Rows" "signs" (by decide))) (yv 2) rfl)) (blkOk_by (N := N_Sheet_init) (sc := defScope s_Sheet_init) (by decide +kernel)) (fun _ _ _ _ _ => (pg_tup rfl (pgs_cons (pg_name (i := 3) sc_Sheet_init.nd rfl (by first | exact Or.inl rfl | exact Or.inr rfl)) (pgs_cons (pg_name (i := 4) sc_Sheet_init.nd rfl (by first | exact Or.inl rfl | exact Or.inr rfl)) pgs_nil)))) (fun _ _ _ _ _ => pts_nil) (fun _ _ _ _ _ => (ye_joined (PJ.cons (ye_fmt (yv 3)) (PJ.cons pe_str (PJ.cons (ye_fmt (yv 4)) PJ.nil)))))) pa_nil)) rfl))))))
end
end Eb

namespace Eb
open PySem PySem.Spec PyProof.Rows L2
theorem PenAt.ext {H H' : Hp} {p c : Addr} {n : Nat} (h : PenAt H p c n) (e : Ext H H') : PenAt H' p c n := by
  obtain ⟨t, l, ns, h1, h2, h3, h4⟩ := h.ex
  exact ⟨t, l, ns, e _ _ h1, e _ _ h2, h3, h4⟩
theorem Ext.kp {H H' : Hp} (e : Ext H H') : Kp H H' := Kp.of e
def okS (t : Str) : Prop := ∀ c ∈ t.cps.toList, c < 0x110000
theorem okS_lay {t : Str} (h : okS t) : okV (.str t) = true := by
  show t.cps.all (· < 0x110000) = true
  rw [← Array.all_toList, List.all_eq_true]
  intro c hc
  exact decide_eq_true (h c hc)
theorem join_mem {s : Str} : ∀ {xs : List Str} {x : Str} {c : Nat}, x ∈ xs → c ∈ x.cps.toList → c ∈ (Str.join s xs).cps.toList
  | [a], x, c, h, hc => by
    have e : x = a := by simpa using h
    rw [← e]
    exact hc
  | a :: b :: r, x, c, h, hc => by
    show c ∈ ((a.cps ++ s.cps) ++ (Str.join s (b :: r)).cps).toList
    rw [Array.toList_append, Array.toList_append]
    rcases List.mem_cons.mp h with e | h
    · rw [← e]
      exact List.mem_append_left _ (List.mem_append_left _ hc)
    · exact List.mem_append_right _ (join_mem (s := s) h hc)
theorem okS_part {t s x : Str} (h : okS t) (hx : x ∈ Txt.split t s) : okS x := fun c hc => h c (by
  have q := join_mem (s := s) hx hc
  rw [StrLaws.join_split] at q
  exact q)
theorem okS_line {t x : Str} (h : okS t) (hx : x ∈ linesOf t) : okS x := by
  unfold linesOf at hx
  split at hx
  · cases hx
  · exact okS_part h hx
section
variable {K : PySem.W.Frag} {vs : List V} {H : Hp} {Q : VK} {E : XK}
/-! ### the pen -/
def sp_begun_pen (K : PySem.W.Frag) : Sp := fun vs H Q _ => ∃ (s : Addr) (ns : List Int), vs = [.ref s] ∧ SqL K H s (ns.map V.int) ∧ ∀ p c H', Ext H H' → PenAt H' p c 0 → Q (.ref p) H'
theorem len_begun_pen (h : sp_begun_pen K vs H Q E) : vs.length = 1 := by
  obtain ⟨_, _, rfl, _⟩ := h
  rfl
theorem merge_pen {c : Addr} : mergeK [] (penKvs c 0 0) = penKvs c 0 0 := by simp [mergeK, putK, penKvs, kc1, kc2, kc3]
def N_begun_pen : List Str := ["_law_script"]
def t_begun_pen (K : PySem.W.Frag) (E : XK) : TS :=
  (tRet (tDisp (((tC (.str "cells")), (tCB (zList K) (tCons (tSl (zSlL K) (yVar 0) tNoPart (tPart (tC (.int 63)))) tNil))) :: (((tC (.str "turn")), (tC (.int 0))) :: (((tC (.str "left")), (tC (.int 0))) :: [])))))
theorem pure_begun_pen (h : sp_begun_pen K vs H Q E) : t_begun_pen K E (dEnd Q) (start N_begun_pen vs) H := by
  obtain ⟨s, ns, rfl, hs, q⟩ := h
  intro p hp
  have e1 : Ext H (upd H p (.dK [])) := Ext.new hp
  refine ⟨_, rfl, _, e1.kp.sqL hs, fun r hr => ⟨_, .inl (SqL.of upd_same), fun l hl => ?_⟩⟩
  have ec : cutV (ns.map V.int) none (some 63) = (ns.take 63).map V.int := by
    unfold cutV
    rw [HT.sIx_none, show (63 : Int) = ((63 : Nat) : Int) from rfl, HT.sIx_nat, List.drop_zero, Nat.sub_zero, List.map_take, List.length_map]
    by_cases hm : 63 ≤ ns.length
    · rw [Nat.min_eq_left hm]
    · rw [Nat.min_eq_right (by omega), List.take_of_length_le (by simp), List.take_of_length_le (by simp; omega)]
  have np : p ≠ r := fun z => by rw [← z, upd_same] at hr; cases hr
  have np2 : p ≠ l := fun z => by rw [← z, upd_ne np, upd_same] at hl; cases hl
  refine ⟨by rw [upd_ne np2, upd_ne np, upd_same], penKvs l 0 0, rfl, (show 3 ≤ 15 by decide), ?_⟩
  rw [merge_pen]
  refine q p l _ (((e1.trans (Ext.new hr)).trans (Ext.new hl)).mut hp) ⟨0, 0, ns.take 63, upd_same, ?_, by decide, by decide⟩
  rw [upd_ne np2.symm, upd_same, ec]

/-! ### pick -/
def sp_pick (_ : PySem.W.Frag) : Sp := fun vs H Q _ => ∃ (p c l : Addr) (n : Nat) (xs : List V), vs = [.ref p, .ref l] ∧ PenAt H p c n ∧ n < 1152921504606846976 ∧ H l = some (.lst xs) ∧ 0 < xs.length ∧ xs.length < 1000000000 ∧
  ∀ (v : V) (H' : Hp), v ∈ xs → Kp H H' → PenAt H' p c (n + 1) → Q v H'
theorem len_pick (h : sp_pick K vs H Q E) : vs.length = 2 := by
  obtain ⟨_, _, _, _, _, rfl, _⟩ := h
  rfl
def N_pick : List Str := ["_law_pen", "_law_options"]
def t_pick (K : PySem.W.Frag) (E : XK) : TS :=
  (tRet (tOp (zIxL K) (yVar 1) (yCall (sp_draw K) E0 (tCons (yVar 0) (tCons (tCB (zLen K) (tCons (yVar 1) tNil)) tNil)))))
theorem pure_pick (h : sp_pick K vs H Q E) : t_pick K E (dEnd Q) (start N_pick vs) H := by
  obtain ⟨p, c, l, n, xs, rfl, hP, hn, hl, h0, h1, q⟩ := h
  refine ⟨_, .inl (SqL.of hl), p, c, n, (xs.length : Nat), rfl, hP, hn, by omega, log_small (by omega), fun r H' r0 r1 k P' => ?_⟩
  obtain ⟨j, rfl⟩ := Int.eq_ofNat_of_zero_le r0
  have hj : j < xs.length := by omega
  exact ⟨xs, xs[j], .inl (SqL.of (k.lst hl)), atI_nat (List.getElem?_eq_getElem hj), q _ H' (List.getElem_mem hj) k P'⟩
def sp_new_tracks (_ : PySem.W.Frag) : Sp := fun vs H Q _ => ∃ (p c : Addr) (n : Nat) (m : Nat), vs = [.ref p, .int (m : Int)] ∧ 0 < m ∧ m ≤ 12 ∧ PenAt H p c n ∧ n + 20 < 1152921504606846976 ∧
  ∀ (ys : List Str) (r : Addr) (H' : Hp), ys.Nodup → (∀ y ∈ ys, y ∈ NAMES) → 1 ≤ ys.length → ys.length ≤ m → Kp H H' → H' r = some (.lst (ys.map V.str)) → PenAt H' p c (n + 13) → Q (.ref r) H'
theorem len_new_tracks (h : sp_new_tracks K vs H Q E) : vs.length = 2 := by
  obtain ⟨_, _, _, _, rfl, _⟩ := h
  rfl
def N_new_tracks : List Str := ["_law_pen", "_law_most"]
def t_new_tracks (K : PySem.W.Frag) (E : XK) : TS :=
  (tRet (yCall (sp_new_names K) E0 (tCons (yVar 0) (tCons (tOp zAdd (tC (.int 1)) (yCall (sp_draw K) E0 (tCons (yVar 0) (tCons (yVar 1) tNil)))) tNil))))
theorem pure_new_tracks (h : sp_new_tracks K vs H Q E) : t_new_tracks K E (dEnd Q) (start N_new_tracks vs) H := by
  obtain ⟨p, c, n, m, rfl, m0, m1, hP, hn, q⟩ := h
  refine ⟨p, c, n, m, rfl, hP, by omega, by omega, log_small (by omega), fun r H1 r0 r1 k1 P1 => ?_⟩
  obtain ⟨j, rfl⟩ := Int.eq_ofNat_of_zero_le r0
  refine ⟨p, c, n + 1, 1 + j, by simp, P1, by omega, fun ys l H2 nd hm hlen k2 _ h2 P2 => ?_⟩
  exact q ys l H2 nd hm (by rw [hlen]; omega) (by rw [hlen]; omega) (k1.trans k2) h2 P2
end
section
variable {P : Program} {w : World} {K : PySem.W.Frag} {mg : Str → Option Value} {base : Heap}
abbrev s_begun_pen : Stmt := top 23
theorem sc_begun_pen : FnScope N_begun_pen ["_law_script"] (defScope s_begun_pen) := ⟨rfl, rfl, rfl, by decide +kernel, rfl, by decide +kernel, by decide +kernel⟩
theorem ok_begun_pen {f : Addr} {fd : FuncData} (B : Blt mg)   (F : FunD K "_law_begun_pen" "_law_begun_pen" (defArgs s_begun_pen) (defBody s_begun_pen) (defScope s_begun_pen) [] [] f fd) : FnOk P w K mg base (L2.CX P w) 1 f fd ["_law_script"] (sp_begun_pen K) := by
  refine F.ok sc_begun_pen (fun vs H Q E h => len_begun_pen h) (fun cdv A outer s H vs Q E hr h => ⟨t_begun_pen K E, ?_, pure_begun_pen h⟩)
  exact (pss_one (ps_ret (pe_disp (pps_cons pe_str (pe_callTy cr_list rfl B.list (by decide +kernel) (pa_cons (pe_slice sl_zL (yv 0) po_none (po_some pe_int)) pa_nil)) (pps_cons pe_str pe_int (pps_cons pe_str pe_int pps_nil))) (by rfl) (by rfl) (by simp) (by decide))))
abbrev s_draw : Stmt := top 24
theorem sc_draw : FnScope N_draw ["_law_pen", "_law_span"] (defScope s_draw) := ⟨rfl, rfl, rfl, by decide +kernel, rfl, by decide +kernel, by decide +kernel⟩
theorem ok_draw {f : Addr} {fd : FuncData} (B : Blt mg)   (F : FunD K "_law_draw" "_law_draw" (defArgs s_draw) (defBody s_draw) (defScope s_draw) [] [] f fd) : FnOk P w K mg base (L2.CX P w) 1 f fd ["_law_pen", "_law_span"] (sp_draw K) := by
  refine F.ok sc_draw (fun vs H Q E h => len_draw h) (fun cdv A outer s H vs Q E hr h => ⟨t_draw K E, ?_, pure_draw h⟩)
  have hu := hu_of hr
  exact (pss_cons (ys_if (yt_cmp op_zGt (ye_dget hu (yv 0) pe_str (fun _ _ => rfl)) pe_int (by rfl)) (pss_cons (ps_set (i := 2) sc_draw.nd rfl (by first | exact Or.inl rfl | exact Or.inr rfl) (pe_op op_zMod (pe_callTy cr_int rfl B.int boot_int (pa_cons (ye_dget hu (yv 0) pe_str (fun _ _ => rfl)) pa_nil)) (yv 1)))
    (pss_cons (ys_dput hu (yv 0) pe_str (pe_op op_zDiv (ye_dget hu (yv 0) pe_str (fun _ _ => rfl)) (yv 1)) rfl)
    (pss_one (ps_ret (yv 2))))) pss_nil)
    (pss_cons (ps_set (i := 3) sc_draw.nd rfl (by first | exact Or.inl rfl | exact Or.inr rfl) (ye_dget hu (yv 0) pe_str (fun _ _ => rfl)))
    (pss_cons (ys_dput hu (yv 0) pe_str (pe_op op_zAdd (yv 3) pe_int) rfl)
    (pss_cons (ps_set (i := 4) sc_draw.nd rfl (by first | exact Or.inl rfl | exact Or.inr rfl) (pe_op op_zAdd (pe_op op_zMul pe_int (yv 3)) pe_int))
    (ys_cut (ys_if (yt_cmp (op_zNeD hr.units) (ye_dget hu (yv 0) pe_str (fun _ _ => rfl)) (pe_lst pa_nil) (by rfl)) (pss_one (ps_set (i := 4) sc_draw.nd rfl (by first | exact Or.inl rfl | exact Or.inr rfl) (pe_ix ix_zIxL (ye_dget hu (yv 0) pe_str (fun _ _ => rfl)) (pe_op op_zMod (pe_callTy cr_int rfl B.int boot_int (pa_cons (yv 3) pa_nil)) (pe_callB cr_len rfl B.len boot_len (pa_cons (ye_dget hu (yv 0) pe_str (fun _ _ => rfl)) pa_nil))) (fun _ _ => rfl)))) pss_nil)
    (pss_cons (ys_if (PW.pt (yt_and (yt_cmp op_zLt (yv 3) (pe_callB cr_len rfl B.len boot_len (pa_cons (ye_dget hu (yv 0) pe_str (fun _ _ => rfl)) pa_nil)) (by rfl)) (pw_and1 (yt_cmp op_zGe (pe_callB cr_abs rfl B.abs (by decide +kernel) (pa_cons (yv 4) pa_nil)) (pe_op op_zPow pe_int pe_int) (by rfl))))) (pss_cons (ys_dput hu (yv 0) pe_str (pe_op op_zDiv (pe_op op_zSub (pe_callB cr_abs rfl B.abs (by decide +kernel) (pa_cons (yv 4) pa_nil)) (pe_op op_zPow pe_int pe_int)) (yv 1)) rfl)
    (pss_one (ps_ret (pe_op op_zMod (pe_callTy cr_int rfl B.int boot_int (pa_cons (pe_op op_zSub (pe_callB cr_abs rfl B.abs (by decide +kernel) (pa_cons (yv 4) pa_nil)) (pe_op op_zPow pe_int pe_int)) pa_nil)) (yv 1))))) pss_nil)
    (pss_cons (ps_set (i := 5) sc_draw.nd rfl (by first | exact Or.inl rfl | exact Or.inr rfl) (pe_op op_zMul (pe_op op_zMod (pe_callTy cr_int rfl B.int boot_int (pa_cons (yv 4) pa_nil)) pe_int) pe_int))
    (pss_cons (ps_set (i := 5) sc_draw.nd rfl (by first | exact Or.inl rfl | exact Or.inr rfl) (pe_op op_zMod (pe_callTy cr_int rfl B.int boot_int (pa_cons (pe_op op_zAdd (pe_op op_zAdd (yv 5) (pe_op op_zMul (yv 3) (pe_op op_zAdd (pe_op op_zMul (yv 3) pe_int) pe_int))) pe_int) pa_nil)) pe_int))
    (pss_cons (ps_set (i := 5) sc_draw.nd rfl (by first | exact Or.inl rfl | exact Or.inr rfl) (pe_op op_zMod (pe_callTy cr_int rfl B.int boot_int (pa_cons (pe_op op_zMul (yv 5) (pe_op op_zAdd (yv 5) pe_int)) pa_nil)) pe_int))
    (pss_cons (ps_set (i := 5) sc_draw.nd rfl (by first | exact Or.inl rfl | exact Or.inr rfl) (pe_op op_zMod (pe_callTy cr_int rfl B.int boot_int (pa_cons (pe_op op_zAdd (pe_op op_zAdd (pe_op op_zMul (yv 5) (yv 5)) (pe_op op_zMul pe_int (yv 5))) (pe_op op_zMul pe_int (yv 3))) pa_nil)) pe_int))
    (pss_one (ps_ret (pe_op op_zMod (pe_callTy cr_int rfl B.int boot_int (pa_cons (pe_op op_zDiv (pe_op op_zMod (pe_callTy cr_int rfl B.int boot_int (pa_cons (pe_op op_zMul (yv 5) (pe_op op_zAdd (yv 5) pe_int)) pa_nil)) pe_int) pe_int) pa_nil)) (yv 1))))))))))))))
abbrev s_pick : Stmt := top 25
theorem sc_pick : FnScope N_pick ["_law_pen", "_law_options"] (defScope s_pick) := ⟨rfl, rfl, rfl, by decide +kernel, rfl, by decide +kernel, by decide +kernel⟩
theorem ok_pick {f : Addr} {fd : FuncData} (B : Blt mg) (c_draw : Cal P w K mg base "_law_draw" 1 ["_law_pen", "_law_span"] (sp_draw K))  (F : FunD K "_law_pick" "_law_pick" (defArgs s_pick) (defBody s_pick) (defScope s_pick) [] [] f fd) : FnOk P w K mg base (L2.CX P w) 2 f fd ["_law_pen", "_law_options"] (sp_pick K) := by
  refine F.ok sc_pick (fun vs H Q E h => len_pick h) (fun cdv A outer s H vs Q E hr h => ⟨t_pick K E, ?_, pure_pick h⟩)
  exact (pss_one (ps_ret (pe_ix ix_zIxL (yv 1) (ye_call c_draw (hr.mono (by decide)) rfl (pa_cons (yv 0) (pa_cons (pe_callB cr_len rfl B.len boot_len (pa_cons (yv 1) pa_nil)) pa_nil))) (fun _ _ => rfl))))
abbrev s_shuffled : Stmt := top 26
theorem sc_shuffled : FnScope N_shuffled ["_law_pen", "_law_items"] (defScope s_shuffled) := ⟨rfl, rfl, rfl, by decide +kernel, rfl, by decide +kernel, by decide +kernel⟩
theorem ok_shuffled {f : Addr} {fd : FuncData} (B : Blt mg) (c_draw : Cal P w K mg base "_law_draw" 1 ["_law_pen", "_law_span"] (sp_draw K))  (F : FunD K "_law_shuffled" "_law_shuffled" (defArgs s_shuffled) (defBody s_shuffled) (defScope s_shuffled) [] [] f fd) : FnOk P w K mg base (L2.CX P w) 2 f fd ["_law_pen", "_law_items"] (sp_shuffled K) := by
  refine F.ok sc_shuffled (fun vs H Q E h => len_shuffled h) (fun cdv A outer s H vs Q E hr h => ⟨t_shuffled K E, ?_, pure_shuffled h⟩)
  have po := passes_of (X := cxOf (L2.CX P w) P w K mg base N_shuffled "_law_shuffled" (defScope s_shuffled) f cdv A outer s H E) rfl
  exact (pss_cons (ys_par (ps_par (i := 2) (j := 3) (by rfl) sc_shuffled.nd rfl rfl (by decide) rfl rfl (PA.up (pa_cons (pe_callTy cr_list rfl B.list (by decide +kernel) (pa_cons (yv 1) pa_nil)) (pa_cons (pe_lst pa_nil) pa_nil))) (by rfl)))
    (pss_cons (ys_while po (yt_cmp (op_zNeD hr.units) (yv 2) (pe_lst pa_nil) (by rfl)) (pss_one (ps_expr (pe_bm PySem.F.plainAttrs_list PySem.F.slot_list_append PySem.F.type_list_append mt_zApp (yv 3) (pa_cons (pe_bm PySem.F.plainAttrs_list PySem.F.slot_list_pop PySem.F.type_list_pop mt_zPopAt (yv 2) (pa_cons (ye_call c_draw (hr.mono (by decide)) rfl (pa_cons (yv 0) (pa_cons (pe_callB cr_len rfl B.len boot_len (pa_cons (yv 2) pa_nil)) pa_nil))) pa_nil)) pa_nil)))))
    (pss_one (ps_ret (yv 3)))))
abbrev s_new_names : Stmt := top 29
theorem sc_new_names : FnScope N_new_names ["_law_pen", "_law_many"] (defScope s_new_names) := ⟨rfl, rfl, rfl, by decide +kernel, rfl, by decide +kernel, by decide +kernel⟩
theorem ok_new_names {f : Addr} {fd : FuncData} (B : Blt mg) (c_shuffled : Cal P w K mg base "_law_shuffled" 2 ["_law_pen", "_law_items"] (sp_shuffled K))  (F : FunD K "_law_new_names" "_law_new_names" (defArgs s_new_names) (defBody s_new_names) (defScope s_new_names) [] [] f fd) : FnOk P w K mg base (L2.CX P w) 3 f fd ["_law_pen", "_law_many"] (sp_new_names K) := by
  refine F.ok sc_new_names (fun vs H Q E h => len_new_names h) (fun cdv A outer s H vs Q E hr h => ⟨t_new_names K E, ?_, pure_new_names h⟩)
  exact (pss_cons (ps_set (i := 2) sc_new_names.nd rfl (by first | exact Or.inl rfl | exact Or.inr rfl) (pe_lst (pa_cons pe_str (pa_cons pe_str (pa_cons pe_str (pa_cons pe_str (pa_cons pe_str (pa_cons pe_str (pa_cons pe_str (pa_cons pe_str (pa_cons pe_str (pa_cons pe_str (pa_cons pe_str (pa_cons pe_str pa_nil))))))))))))))
    (pss_one (ps_ret (pe_slice sl_zL (ye_call c_shuffled (hr.mono (by decide)) rfl (pa_cons (yv 0) (pa_cons (yv 2) pa_nil))) po_none (po_some (yv 1))))))
abbrev s_new_tracks : Stmt := top 30
theorem sc_new_tracks : FnScope N_new_tracks ["_law_pen", "_law_most"] (defScope s_new_tracks) := ⟨rfl, rfl, rfl, by decide +kernel, rfl, by decide +kernel, by decide +kernel⟩
theorem ok_new_tracks {f : Addr} {fd : FuncData} (B : Blt mg) (c_draw : Cal P w K mg base "_law_draw" 1 ["_law_pen", "_law_span"] (sp_draw K)) (c_new_names : Cal P w K mg base "_law_new_names" 3 ["_law_pen", "_law_many"] (sp_new_names K))  (F : FunD K "_law_new_tracks" "_law_new_tracks" (defArgs s_new_tracks) (defBody s_new_tracks) (defScope s_new_tracks) [] [] f fd) : FnOk P w K mg base (L2.CX P w) 4 f fd ["_law_pen", "_law_most"] (sp_new_tracks K) := by
  refine F.ok sc_new_tracks (fun vs H Q E h => len_new_tracks h) (fun cdv A outer s H vs Q E hr h => ⟨t_new_tracks K E, ?_, pure_new_tracks h⟩)
  exact (pss_one (ps_ret (ye_call c_new_names (hr.mono (by decide)) rfl (pa_cons (yv 0) (pa_cons (pe_op op_zAdd pe_int (ye_call c_draw (hr.mono (by decide)) rfl (pa_cons (yv 0) (pa_cons (yv 1) pa_nil)))) pa_nil)))))
end
end Eb

namespace Eb
open PySem PySem.Spec PyProof.Rows L2
section
variable {K : PySem.W.Frag} {vs : List V} {H : Hp} {Q : VK} {E : XK}
/-! ### the barred words -/
def sp_barred (_ : PySem.W.Frag) : Sp := fun vs H Q _ => vs = [] ∧ ∀ (r : Addr) (H' : Hp), Ext H H' → H r = none → H' r = some (.lst (BARRED.map V.str)) → Q (.ref r) H'
theorem len_barred (h : sp_barred K vs H Q E) : vs.length = 0 := by
  obtain ⟨rfl, _⟩ := h
  rfl
def N_barred : List Str := ["_law_found"]
def t_barred (K : PySem.W.Frag) (E : XK) : TS :=
  (tSeq (tAsg (tLst (tCons (tC (.str "left")) (tCons (tC (.str "right")) (tCons (tC (.str "up")) (tCons (tC (.str "down")) (tCons (tC (.str "first")) (tCons (tC (.str "last")) (tCons (tC (.str "jump")) (tCons (tC (.str "go")) (tCons (tC (.str "swap")) (tCons (tC (.str "fill")) (tCons (tC (.str "clear")) (tCons (tC (.str "flip")) (tCons (tC (.str "take")) tNil)))))))))))))) (gName 0))
    (tSeq (tAsg (tOp zCatL (yVar 0) (tLst (tCons (tC (.str "to")) (tCons (tC (.str "hold")) (tCons (tC (.str "insert")) (tCons (tC (.str "delete")) (tCons (tC (.str "if")) (tCons (tC (.str "else")) (tCons (tC (.str "end")) (tCons (tC (.str "times")) (tCons (tC (.str "filled")) (tCons (tC (.str "edge")) (tCons (tC (.str "on")) (tCons (tC (.str "at")) tNil)))))))))))))) (gName 0))
    (tRet (tOp zCatL (yVar 0) (tLst (tCons (tC (.str "ahead")) (tCons (tC (.str "behind")) (tCons (tC (.str "held")) (tCons (tC (.str "is")) (tCons (tC (.str "here")) (tCons (tC (.str "all")) (tCons (tC (.str "some")) (tCons (tC (.str "and")) (tCons (tC (.str "or")) (tCons (tC (.str "not")) tNil)))))))))))))))
theorem pure_barred (h : sp_barred K vs H Q E) : t_barred K E (dEnd Q) (start N_barred vs) H := by
  obtain ⟨rfl, q⟩ := h
  refine ⟨by decide, fun p1 n1 => ⟨by decide, fun p2 n2 => ⟨_, _, (Ext.new n2) _ _ upd_same, upd_same, by decide, fun p3 n3 => ⟨by decide, fun p4 n4 => ⟨_, _, (Ext.new n4) _ _ upd_same, upd_same, by decide, fun p5 n5 => ?_⟩⟩⟩⟩⟩
  exact q p5 _ (((((Ext.new n1).trans (Ext.new n2)).trans (Ext.new n3)).trans (Ext.new n4)).trans (Ext.new n5)) (Ext.back (Ext.trans (Ext.trans (Ext.trans (Ext.new n1) (Ext.new n2)) (Ext.new n3)) (Ext.new n4)) n5) (by rw [upd_same]; rfl)
/-! ### is_name -/
def sp_is_name (_ : PySem.W.Frag) : Sp := fun vs H Q _ => ∃ w : Str, vs = [.str w] ∧ w.length < 16777216 ∧ okS w ∧ ∀ H', Ext H H' → Q (.bl (nameOk w)) H'
theorem len_is_name (h : sp_is_name K vs H Q E) : vs.length = 1 := by
  obtain ⟨_, rfl, _⟩ := h
  rfl
theorem odd_nil {s w : Str} : (w.cps.toList.filter fun c => !decide (c ∈ s.cps.toList)) = [] ↔ allIn s w = true := by
  unfold allIn
  rw [List.filter_eq_nil_iff, List.all_eq_true]
  constructor
  · intro h c hc
    have := h c hc
    simpa using this
  · intro h c hc
    have := h c hc
    simpa using this
theorem eqv_nilL {xs : List V} : PyData.eqv (.list (xs.map dataV)) (.list []) = decide (xs = []) := by
  cases xs with
  | nil => rfl
  | cons x r => simp [PyData.eqv, PyData.eqvAll]
theorem odd_ok {w : Str} {p : Nat → Bool} (h : okS w) : (((w.cps.toList.filter p).map fun c => V.str ⟨#[c]⟩)).all okV = true := List.all_eq_true.mpr fun z hz => by
  obtain ⟨c, hc, rfl⟩ := List.mem_map.mp hz
  refine okS_lay fun d hd => ?_
  have e : d = c := by simpa using hd
  rw [e]
  exact h c (List.mem_filter.mp hc).1
theorem odd_flat {xs : List Nat} : (xs.map fun c => V.str ⟨#[c]⟩).all flatV = true := by simp [flatV]
def N_is_name : List Str := ["_law_word", "_law_odd", "_law_sign"]
def t_is_name (K : PySem.W.Frag) (E : XK) : TS :=
  (tSeq (tAsg (yLc (jStr (yVar 0)) (gName 2) (yTst (tOp (zIn K true) (yVar 2) (tC (.str "abcdefghijklmnopqrstuvwxyz")))) (yVar 2) [2]) (gName 1))
    (tRet (yAndV (yChain zLe zLe (tC (.int 1)) (tCB (zLen K) (tCons (yVar 0) tNil)) (tC (.int 12))) (yAndV (tOp (zEqD K) (yVar 1) (tLst tNil)) (tOp (zIn K true) (yVar 0) (yCall (sp_barred K) E0 tNil))))))
theorem pure_is_name (h : sp_is_name K vs H Q E) : t_is_name K E (dEnd Q) (start N_is_name vs) H := by
  obtain ⟨w, rfl, hl, ok, q⟩ := h
  have hsz : w.length ≤ sizeLine := by rw [sizeLine_eq]; omega
  dsimp only [t_is_name, tSeq, tAsg]
  refine lc_strF (z := w) (fun c => !decide (c ∈ LETTERS.cps.toList)) (by intro R; rfl) (by rw [sizeLine_eq]; exact hl) (by intro x; rfl) (fun H' c Q' _ hq => ⟨c, rfl, hq⟩) (fun H' c Q' hq => hq) fun D hD => ?_
  have e1 : Ext H (upd H D (.lst ((w.cps.toList.filter fun c => !decide (c ∈ LETTERS.cps.toList)).map fun c => V.str ⟨#[c]⟩))) := Ext.new hD
  have gD : (upd H D (.lst ((w.cps.toList.filter fun c => !decide (c ∈ LETTERS.cps.toList)).map fun c => V.str ⟨#[c]⟩))) D = some _ := upd_same
  generalize upd H D (.lst ((w.cps.toList.filter fun c => !decide (c ∈ LETTERS.cps.toList)).map fun c => V.str ⟨#[c]⟩)) = G at e1 gD ⊢
  have fin : ∀ b H', Ext G H' → nameOk w = b → Q (.bl b) H' := fun b H' e z => by rw [← z]; exact q H' (e1.trans e)
  refine ⟨hsz, brD (fun h1 => ?_) fun h1 => ?_⟩
  · refine brD (fun h2 => ?_) fun h2 => ?_
    · refine ⟨Nat.zero_le _, fun p np => ⟨.list (_), .list [], .lst (SqL.of ((Ext.new np) _ _ gD)) (dpAll_flat odd_flat), .lst (SqL.of upd_same) .nil, shaped_flatL (odd_ok ok), by decide, ?_⟩⟩
      rw [eqv_nilL]
      have e2 : Ext G (upd G p (.lst [])) := Ext.new np
      have a1 : 1 ≤ w.length := by omega
      have a2 : w.length ≤ 12 := by omega
      refine brD (fun h3 => ?_) fun h3 => ?_
      · have h3 : allIn LETTERS w = true := odd_nil.mp (List.map_eq_nil_iff.mp h3)
        refine ⟨rfl, fun r H' e3 nr hr => ⟨_, .inl (SqL.of hr), rfl, flat_strs, ?_⟩⟩
        rw [inV_str]
        refine fin _ H' (e2.trans e3) ?_
        unfold nameOk
        simp [a1, a2, h3]
      · refine fin false _ e2 ?_
        have h4 : allIn LETTERS w = false := by
          cases z : allIn LETTERS w with
          | false => rfl
          | true => exact absurd (by rw [odd_nil.mpr z]; rfl) h3
        unfold nameOk
        simp [h4]
    · exact fin false G (Ext.refl _) (by
        unfold nameOk
        have a2 : ¬ w.length ≤ 12 := by omega
        simp [a2])
  · exact brF rfl (fin false G (Ext.refl _) (by
      unfold nameOk
      have a2 : ¬ 1 ≤ w.length := by omega
      simp [a2]))
/-! ### new_tracks -/
end
section
variable {P : Program} {w : World} {K : PySem.W.Frag} {mg : Str → Option Value} {base : Heap}
abbrev s_barred : Stmt := top 27
theorem sc_barred : FnScope N_barred [] (defScope s_barred) := ⟨rfl, rfl, rfl, by decide +kernel, rfl, by decide +kernel, by decide +kernel⟩
theorem ok_barred {f : Addr} {fd : FuncData} (B : Blt mg)   (F : FunD K "_law_barred" "_law_barred" (defArgs s_barred) (defBody s_barred) (defScope s_barred) [] [] f fd) : FnOk P w K mg base (L2.CX P w) 1 f fd [] (sp_barred K) := by
  refine F.ok sc_barred (fun vs H Q E h => len_barred h) (fun cdv A outer s H vs Q E hr h => ⟨t_barred K E, ?_, pure_barred h⟩)
  exact (pss_cons (ps_set (i := 0) sc_barred.nd rfl (by first | exact Or.inl rfl | exact Or.inr rfl) (pe_lst (pa_cons pe_str (pa_cons pe_str (pa_cons pe_str (pa_cons pe_str (pa_cons pe_str (pa_cons pe_str (pa_cons pe_str (pa_cons pe_str (pa_cons pe_str (pa_cons pe_str (pa_cons pe_str (pa_cons pe_str (pa_cons pe_str pa_nil)))))))))))))))
    (pss_cons (ps_set (i := 0) sc_barred.nd rfl (by first | exact Or.inl rfl | exact Or.inr rfl) (pe_op op_zCatL (yv 0) (pe_lst (pa_cons pe_str (pa_cons pe_str (pa_cons pe_str (pa_cons pe_str (pa_cons pe_str (pa_cons pe_str (pa_cons pe_str (pa_cons pe_str (pa_cons pe_str (pa_cons pe_str (pa_cons pe_str (pa_cons pe_str pa_nil)))))))))))))))
    (pss_one (ps_ret (pe_op op_zCatL (yv 0) (pe_lst (pa_cons pe_str (pa_cons pe_str (pa_cons pe_str (pa_cons pe_str (pa_cons pe_str (pa_cons pe_str (pa_cons pe_str (pa_cons pe_str (pa_cons pe_str (pa_cons pe_str pa_nil))))))))))))))))
abbrev s_is_name : Stmt := top 28
theorem sc_is_name : FnScope N_is_name ["_law_word"] (defScope s_is_name) := ⟨rfl, rfl, rfl, by decide +kernel, rfl, by decide +kernel, by decide +kernel⟩
theorem ok_is_name {f : Addr} {fd : FuncData} (B : Blt mg) (c_barred : Cal P w K mg base "_law_barred" 1 [] (sp_barred K))  (F : FunD K "_law_is_name" "_law_is_name" (defArgs s_is_name) (defBody s_is_name) (defScope s_is_name) [] [] f fd) : FnOk P w K mg base (L2.CX P w) 2 f fd ["_law_word"] (sp_is_name K) := by
  refine F.ok sc_is_name (fun vs H Q E h => len_is_name h) (fun cdv A outer s H vs Q E hr h => ⟨t_is_name K E, ?_, pure_is_name h⟩)
  exact (pss_cons (ys_setLc (i := 1) (own := [("_law_sign", 2)]) (g := (gName 2)) (tt := (yTst (tOp (zIn K true) (yVar 2) (tC (.str "abcdefghijklmnopqrstuvwxyz"))))) rfl sc_is_name.nd rfl rfl (sw_true rfl rfl rfl (by decide +kernel)) (j_str (yv 0)) (blkOk_by (N := N_is_name) (sc := defScope s_is_name) (by decide +kernel)) (fun _ _ _ _ _ => (pg_name (i := 2) sc_is_name.nd rfl (by first | exact Or.inl rfl | exact Or.inr rfl))) (fun _ _ _ _ _ => (pts_one (yt_cmp op_zNotIn (yv 2) pe_str (by rfl)))) (fun _ _ _ _ _ => (yv 2)))
    (pss_one (ps_ret (ye_and (ye_chain op_zLe op_zLe pe_int (pe_callB cr_len rfl B.len boot_len (pa_cons (yv 0) pa_nil)) pe_int) (ye_and (pe_cmpR (op_zEqD hr.units) (yv 1) (pe_lst pa_nil) (by rfl)) (pe_one (pe_cmpR op_zNotIn (yv 0) (ye_call0 c_barred (hr.mono (by decide)) rfl) (by rfl))))))))
end
end Eb

namespace Eb
open PySem PySem.Spec PyProof.Rows L2
def bit01 (bs : List Int) : Prop := ∀ b ∈ bs, b = 0 ∨ b = 1
def shKvs (t c : Addr) : List (Key × V) := [(Sum.inr "tracks", .ref t), (Sum.inr "cols", .ref c)]
/-- the law's plain sheet: the names, the columns' bits -/
def SheetD (H : Hp) (d : Addr) (ys : List Str) (m : Nat) : Prop := ∃ (t c : Addr) (cols : List Addr), H d = some (.dK (shKvs t c)) ∧ H t = some (.lst (ys.map V.str)) ∧ H c = some (.lst (cols.map V.ref)) ∧ cols.length = m ∧
  ∀ q ∈ cols, ∃ bs : List Int, H q = some (.lst (bs.map V.int)) ∧ bs.length = ys.length ∧ bit01 bs
theorem SheetD.kp {H H' : Hp} {d : Addr} {ys : List Str} {m : Nat} (h : SheetD H d ys m) (e : Ext H H') : SheetD H' d ys m := by
  obtain ⟨t, c, cols, h1, h2, h3, h4, h5⟩ := h
  refine ⟨t, c, cols, e _ _ h1, e _ _ h2, e _ _ h3, h4, fun q hq => ?_⟩
  obtain ⟨bs, b1, b2, b3⟩ := h5 q hq
  exact ⟨bs, e _ _ b1, b2, b3⟩
theorem kt1 : ¬ (("tracks" : Str) = "cols") := by decide +kernel
theorem kt2 : ¬ (("cols" : Str) = "tracks") := by decide +kernel
theorem sh_tracks {t c : Addr} : valV (shKvs t c) (Sum.inr "tracks") = some (.ref t) := by simp [valV, shKvs]
theorem sh_cols {t c : Addr} : valV (shKvs t c) (Sum.inr "cols") = some (.ref c) := by simp [valV, shKvs, kt1]
theorem merge_sh {t c : Addr} : mergeK [] (shKvs t c) = shKvs t c := by simp [mergeK, putK, shKvs, kt1]
theorem not_pen_sh {t c : Addr} : ¬ isPen (.dK (shKvs t c)) := by
  rintro ⟨a, b, d, e⟩
  have := congrArg List.length e
  simp [shKvs, penKvs] at this
section
variable {K : PySem.W.Frag} {vs : List V} {H : Hp} {Q : VK} {E : XK}
/-! ### a new plain sheet -/
def sp_new_sheet (_ : PySem.W.Frag) : Sp := fun vs H Q _ => ∃ (p c l : Addr) (n m : Nat) (ys : List Str), vs = [.ref p, .ref l, .int (m : Int)] ∧ PenAt H p c n ∧ n + 10000 < 1152921504606846976 ∧ H l = some (.lst (ys.map V.str)) ∧ ys.length ≤ 3 ∧ m ≤ 1000 ∧
  ∀ (d : Addr) (H' : Hp), Kp H H' → H d = none → SheetD H' d ys m → PenAt H' p c (n + 3 * (2 + m)) → Q (.ref d) H'
theorem len_new_sheet (h : sp_new_sheet K vs H Q E) : vs.length = 3 := by
  obtain ⟨_, _, _, _, _, _, rfl, _⟩ := h
  rfl
theorem bit_of {r : Int} (h0 : 0 ≤ r) (h1 : r < 2) : r = 0 ∨ r = 1 := by omega
def N_new_sheet : List Str := ["_law_pen", "_law_tracks", "_law_many", "_law_rows", "_law_track", "_law_bit", "_law_row", "_law_span", "_law_k"]
def t_new_sheet (K : PySem.W.Frag) (E : XK) : TS :=
  (tSeq (tAsg (tLst tNil) (gName 3))
    (tSeq (yFor (jLst K (yVar 1)) (gName 4) (tSeq (yPar3 5 6 7 (tCons (yCall (sp_draw K) E0 (tCons (yVar 0) (tCons (tC (.int 2)) tNil))) (tCons (tLst tNil) (tCons (tOp zAdd (tC (.int 2)) (yCall (sp_draw K) E0 (tCons (yVar 0) (tCons (tC (.int 3)) tNil)))) tNil))))
    (tSeq (yFor (jRng (yVar 2)) (gName 8) (tSeq (tAsg (yIfE (yTst (tOp zEq (yCall (sp_draw K) E0 (tCons (yVar 0) (tCons (yVar 7) tNil))) (tC (.int 0)))) (tOp zSub (tC (.int 1)) (yVar 5)) (yVar 5)) (gName 5))
    (tDrop (tBM K "list" zApp (yVar 6) (tCons (yVar 5) tNil)))))
    (tDrop (tBM K "list" zApp (yVar 3) (tCons (yVar 6) tNil))))))
    (tRet (tDisp (((tC (.str "tracks")), (tCB (zList K) (tCons (yVar 1) tNil))) :: (((tC (.str "cols")), (yLc (jRng (yVar 2)) (gName 8) tYes (yLc (jLst K (yVar 3)) (gName 6) tYes (tOp (zIxL K) (yVar 6) (yVar 8)) [6]) [8])) :: []))))))
theorem pure_new_sheet (h : sp_new_sheet K vs H Q E) : t_new_sheet K E (dEnd Q) (start N_new_sheet vs) H := by
  obtain ⟨p, c, l, n, m, ys, rfl, hP, hn, hl, hy, hm, q⟩ := h
  refine ⟨Nat.zero_le _, fun R nR => ?_⟩
  have k0 : Kp H (upd H R (.lst [])) := Kp.new nR
  refine ⟨_, SqL.of (k0.lst hl), fun i σ G => ∃ (rows : List Addr) (x4 x5 x6 x7 x8 : Option V), σ = [some (.ref p), some (.ref l), some (.int (m : Int)), some (.ref R), x4, x5, x6, x7, x8] ∧ Kp H G ∧ G R = some (.lst (rows.map V.ref)) ∧ rows.length = i ∧
    (∀ r ∈ rows, r ≠ R ∧ ∃ bs : List Int, G r = some (.lst (bs.map V.int)) ∧ bs.length = m ∧ bit01 bs) ∧ PenAt G p c (n + i * (2 + m)),
    ⟨[], _, _, _, _, _, rfl, k0, upd_same, rfl, (fun r hr => by cases hr), by simpa using hP.new nR⟩, fun i σ G _ ⟨_, _, _, _, _, _, _, k, _⟩ => SqL.of (k.lst hl), ?_, ?_⟩
  · rintro i x σ Gx G hi ⟨rows, x4, x5, x6, x7, x8, rfl, kG, gR, hlr, hrows, PG⟩ ⟨rfl, hx⟩
    rw [List.length_map] at hi
    have hb : n + i * (2 + m) + 2 + m + 1 < 1152921504606846976 := by
      have : i * (2 + m) ≤ 3 * 1002 := Nat.mul_le_mul (by omega) (by omega)
      omega
    refine ⟨p, c, _, 2, rfl, PG, by omega, by decide, by decide, fun b0 G1 b00 b01 kb P1 => ?_⟩
    refine ⟨Nat.zero_le _, fun q0 nq => ?_⟩
    refine ⟨p, c, _, 3, rfl, P1.new nq, by omega, by decide, by decide, fun s0 G2 s00 s01 ks P2 => ?_⟩
    have nq1 : G q0 = none := kb.back nq
    have kq : Kp G G2 := (kb.trans (Kp.new nq)).trans ks
    have gq : G2 q0 = some (.lst (([] : List Int).map V.int)) := ks.lst upd_same
    have nqR : q0 ≠ R := fun z => by rw [z, gR] at nq1; cases nq1
    have kR : G2 R = some (.lst (rows.map V.ref)) := kq.lst gR
    refine ⟨by omega, by omega, fun j σ G3 => ∃ (b : Int) (bs : List Int) (x8 : Option V), σ = [some (.ref p), some (.ref l), some (.int (m : Int)), some (.ref R), some x, some (.int b), some (.ref q0), some (.int (2 + s0)), x8] ∧ (b = 0 ∨ b = 1) ∧ Kp G G3 ∧ G3 q0 = some (.lst (bs.map V.int)) ∧ bs.length = j ∧ bit01 bs ∧ PenAt G3 p c (n + i * (2 + m) + 2 + j),
      ⟨b0, [], _, rfl, bit_of b00 b01, kq, gq, rfl, (fun b hb => by cases hb), P2⟩, fun _ _ _ _ _ => trivial, ?_, ?_⟩
    · rintro j y σ G3 G4 hj ⟨b, bs, x8, rfl, hb01, k3, g3, hbl, hbs, P3⟩ ⟨rfl, rfl⟩
      have hj : j < m := by
        have z : j < ((m : Int)).toNat := hj
        omega
      refine ⟨p, c, _, 2 + s0, rfl, P3, by omega, by omega, by
        have e1 : (2 + s0).natAbs = (2 + s0).toNat := by omega
        have e2 : ((2 + s0).toNat : Int) = 2 + s0 := by omega
        have := log_small (n := (2 + s0).toNat) (by omega)
        rw [e2] at this
        exact this, fun r G5 r0 r1 k5 P5 => ?_⟩
      have go : ∀ b' : Int, (b' = 0 ∨ b' = 1) → (tDrop (tBM K "list" zApp (yVar 6) (tCons (yVar 5) tNil)))
          { (dEnd Q) with nx := (fun σ G3 => ∃ (b : Int) (bs : List Int) (x8 : Option V), σ = [some (.ref p), some (.ref l), some (.int (m : Int)), some (.ref R), some x, some (.int b), some (.ref q0), some (.int (2 + s0)), x8] ∧ (b = 0 ∨ b = 1) ∧ Kp G G3 ∧ G3 q0 = some (.lst (bs.map V.int)) ∧ bs.length = j + 1 ∧ bit01 bs ∧ PenAt G3 p c (n + i * (2 + m) + 2 + (j + 1))) }
          [some (.ref p), some (.ref l), some (.int (m : Int)), some (.ref R), some x, some (.int b'), some (.ref q0), some (.int (2 + s0)), some (.int (0 + (j : Nat)))] G5 := fun b' hb' => by
        have g5 := k5.lst g3
        refine ⟨tyL g5, _, g5, ?_, b', bs ++ [b'], _, rfl, hb', (k3.trans k5).mut nq1, ?_, by simp [hbl], fun z hz => ?_, ?_⟩
        · rw [List.length_map, sizeLine_eq]
          omega
        · rw [upd_same, List.map_append]
          rfl
        · rcases List.mem_append.mp hz with zz | zz
          · exact hbs _ zz
          · have : z = b' := by simpa using zz
            rw [this]
            exact hb'
        · obtain ⟨ne1, ne2⟩ := PG.ne nq1
          exact P5.mut ne1 ne2
      refine brD (fun _ => ?_) fun _ => ?_
      · exact go (1 - b) (by omega)
      · exact go b hb01
    · rintro σ G3 ⟨b, bs, x8, rfl, hb01, k3, g3, hbl, hbs, P3⟩
      have hbl : bs.length = m := by
        have z : bs.length = ((m : Int)).toNat := hbl
        omega
      have g3R : G3 R = some (.lst (rows.map V.ref)) := k3.lst gR
      refine ⟨tyL g3R, _, g3R, ?_, rows ++ [q0], _, _, _, _, _, rfl, (kG.trans k3).mut nR, ?_, by simp [hlr], fun r hr => ?_, ?_⟩
      · rw [List.length_map, sizeLine_eq]
        omega
      · rw [upd_same, List.map_append]
        rfl
      · rcases List.mem_append.mp hr with z | z
        · obtain ⟨a1, bs', a2, a3, a4⟩ := hrows r z
          exact ⟨a1, bs', by rw [upd_ne a1]; exact k3.lst a2, a3, a4⟩
        · have : r = q0 := by simpa using z
          subst this
          exact ⟨nqR, bs, by rw [upd_ne nqR]; exact g3, hbl, hbs⟩
      · obtain ⟨ne1, ne2⟩ := hP.ne nR
        refine (P3.mut ne1 ne2).mono ?_
        have z : ((m : Int)).toNat = m := by omega
        rw [z, Nat.succ_mul]
        omega
  · rintro σ G ⟨rows, x4, x5, x6, x7, x8, rfl, kG, gR, hlr, hrows, PG⟩
    rw [List.length_map] at hlr PG
    intro d nd
    have e1 : Ext G (upd G d (.dK [])) := Ext.new nd
    refine ⟨_, .inl (SqL.of (e1 _ _ (kG.lst hl))), fun t nt => ?_⟩
    have e2 : Ext G (upd (upd G d (.dK [])) t (.lst (ys.map V.str))) := e1.trans (Ext.new nt)
    have gt : (upd (upd G d (.dK [])) t (.lst (ys.map V.str))) t = some (.lst (ys.map V.str)) := upd_same
    have gd : (upd (upd G d (.dK [])) t (.lst (ys.map V.str))) d = some (.dK []) := (Ext.new nt) _ _ upd_same
    generalize upd (upd G d (.dK [])) t (.lst (ys.map V.str)) = G1 at e2 gt gd ⊢
    refine ⟨by omega, by omega, fun D nD => ⟨fun i acc G' => ∃ cols : List Addr, acc = cols.map V.ref ∧ cols.length = i ∧ Ext G1 G' ∧ G' D = some (.lst acc) ∧ ∀ q ∈ cols, q ≠ D ∧ ∃ bs : List Int, G' q = some (.lst (bs.map V.int)) ∧ bs.length = ys.length ∧ bit01 bs,
      ⟨[], rfl, rfl, Ext.new nD, upd_same, fun q hq => by cases hq⟩, fun i acc G' hi ⟨cols, c1, c2, c3, c4, c5⟩ => ?_, ?_, ?_⟩⟩
    · refine ⟨trivial, c4, ?_⟩
      rw [c1, List.length_map, sizeLine_eq]
      have z : i ≤ ((m : Int)).toNat := hi
      omega
    · rintro i x acc Gx G' hi ⟨cols, c1, c2, c3, c4, c5⟩ ⟨rfl, rfl⟩
      have him : i < m := by
        have z : i < ((m : Int)).toNat := hi
        omega
      refine ⟨rfl, brT rfl ?_⟩
      have gR' : G' R = some (.lst (rows.map V.ref)) := c3 _ _ (e2 _ _ gR)
      refine ⟨_, SqL.of gR', fun D2 nD2 => ⟨fun j acc2 G2 => ∃ bs : List Int, acc2 = bs.map V.int ∧ bs.length = j ∧ bit01 bs ∧ Ext G' G2 ∧ G2 D2 = some (.lst acc2), ⟨[], rfl, rfl, (fun b hb => by cases hb), Ext.new nD2, upd_same⟩, fun j acc2 G2 hj ⟨bs, b1, b2, b3, b4, b5⟩ => ?_, ?_, ?_⟩⟩
      · refine ⟨SqL.of (b4 _ _ gR'), b5, ?_⟩
        rw [b1, List.length_map, sizeLine_eq]
        rw [List.length_map] at hj
        omega
      · rintro j y acc2 Gx G2 hj ⟨bs, b1, b2, b3, b4, b5⟩ ⟨rfl, hy'⟩
        rw [List.getElem?_map] at hy'
        obtain ⟨r, hr, rfl⟩ := Option.map_eq_some_iff.mp hy'
        obtain ⟨_, rb, r1, r2, r3⟩ := hrows r (List.mem_of_getElem? hr)
        have hlt : i < rb.length := by omega
        have gr2 : G2 r = some (.lst (rb.map V.int)) := b4 _ _ (c3 _ _ (e2 _ _ r1))
        have hix : atI (rb.map V.int) (0 + ((i : Nat) : Int)) = some (.int rb[i]) := by
          rw [Int.zero_add]
          exact atI_nat (by rw [List.getElem?_map, List.getElem?_eq_getElem hlt]; rfl)
        refine ⟨rfl, brT rfl ⟨_, .int rb[i], .inl (SqL.of gr2), hix, b5, bs ++ [rb[i]], by rw [b1, List.map_append]; rfl, by simp [b2], fun z hz => ?_, b4.mut nD2, upd_same⟩⟩
        rcases List.mem_append.mp hz with zz | zz
        · exact b3 _ zz
        · rw [show z = rb[i] by simpa using zz]
          exact r3 _ (List.getElem_mem hlt)
      · rintro acc2 G2 ⟨bs, b1, b2, b3, b4, b5⟩
        rw [List.length_map] at b2
        have nDD : D ≠ D2 := fun z => by rw [← z, c4] at nD2; cases nD2
        refine ⟨b4 _ _ c4, cols ++ [D2], by rw [c1, List.map_append]; rfl, by simp [c2], (c3.trans b4).mut nD, upd_same, fun r hr => ?_⟩
        rcases List.mem_append.mp hr with z | z
        · obtain ⟨a1, bs', a2, a3, a4⟩ := c5 r z
          exact ⟨a1, bs', by rw [upd_ne a1]; exact b4 _ _ a2, a3, a4⟩
        · have : r = D2 := by simpa using z
          subst this
          exact ⟨nDD.symm, bs, by rw [upd_ne nDD.symm, b5, b1], by omega, b3⟩
    · rintro acc G' ⟨cols, c1, c2, c3, c4, c5⟩
      have c2 : cols.length = m := by
        have z : cols.length = ((m : Int)).toNat := c2
        omega
      refine ⟨c3 _ _ gd, shKvs t D, rfl, (show 2 ≤ 15 by decide), ?_⟩
      rw [merge_sh]
      have eGd : ∀ b o, b ≠ d → G' b = some o → (upd G' d (.dK (shKvs t D))) b = some o := fun b o hb hx => by rw [upd_ne hb]; exact hx
      have nHd : H d = none := kG.back nd
      have ntd : t ≠ d := fun z => by rw [z, gd] at gt; cases gt
      have nDd : D ≠ d := fun z => by rw [z] at nD; rw [gd] at nD; cases nD
      have kpF : Kp H (upd G' d (.dK (shKvs t D))) := (kG.trans ((e2.trans c3).kp)).mut nHd
      refine q d _ kpF nHd ⟨t, D, cols, upd_same, eGd _ _ ntd (c3 _ _ gt), eGd _ _ nDd (by rw [c4, c1]), c2, fun r hr => ?_⟩ ?_
      · obtain ⟨_, bs, a2, a3, a4⟩ := c5 r hr
        refine ⟨bs, eGd _ _ (fun z => ?_) a2, a3, a4⟩
        have := c3 _ _ gd
        rw [← z, a2] at this
        cases this
      · obtain ⟨ne1, ne2⟩ := PG.ne nd
        refine ((PG.ext (e2.trans c3)).mut ne1 ne2).mono ?_
        have : ys.length * (2 + m) ≤ 3 * (2 + m) := Nat.mul_le_mul_right _ hy
        omega
end
end Eb

namespace Eb
open PySem PySem.Spec PyProof.Rows L2
/-! ### plain sheets, told -/
def ColsAt (H : Hp) (cas : List Addr) (cols : List (List Int)) : Prop := cas.length = cols.length ∧ ∀ (i : Nat) (a : Addr), cas[i]? = some a → ∃ bs, cols[i]? = some bs ∧ H a = some (.lst (bs.map V.int))
def SheetC (H : Hp) (d : Addr) (ys : List Str) (cols : List (List Int)) : Prop := ∃ (t c : Addr) (cas : List Addr), H d = some (.dK (shKvs t c)) ∧ H t = some (.lst (ys.map V.str)) ∧ H c = some (.lst (cas.map V.ref)) ∧ ColsAt H cas cols
theorem ColsAt.ext {H H' : Hp} {cas : List Addr} {cols : List (List Int)} (h : ColsAt H cas cols) (e : Ext H H') : ColsAt H' cas cols := ⟨h.1, fun i a ha => by
  obtain ⟨bs, h1, h2⟩ := h.2 i a ha
  exact ⟨bs, h1, e _ _ h2⟩⟩
theorem SheetC.ext {H H' : Hp} {d : Addr} {ys : List Str} {cols : List (List Int)} (h : SheetC H d ys cols) (e : Ext H H') : SheetC H' d ys cols := by
  obtain ⟨t, c, cas, h1, h2, h3, h4⟩ := h
  exact ⟨t, c, cas, e _ _ h1, e _ _ h2, e _ _ h3, h4.ext e⟩
theorem SheetC.kp {H H' : Hp} {d : Addr} {ys : List Str} {cols : List (List Int)} (h : SheetC H d ys cols) (k : Kp H H') : SheetC H' d ys cols := by
  obtain ⟨t, c, cas, h1, h2, h3, h4, h5⟩ := h
  refine ⟨t, c, cas, k.keep h1 not_pen_sh, k.lst h2, k.lst h3, h4, fun i a ha => ?_⟩
  obtain ⟨bs, b1, b2⟩ := h5 i a ha
  exact ⟨bs, b1, k.lst b2⟩
def ColOk (n : Nat) (cols : List (List Int)) : Prop := ∀ bs ∈ cols, bs.length = n ∧ bit01 bs
theorem cols_of {H : Hp} {n : Nat} : ∀ (cas : List Addr), (∀ q ∈ cas, ∃ bs : List Int, H q = some (.lst (bs.map V.int)) ∧ bs.length = n ∧ bit01 bs) → ∃ cols, ColsAt H cas cols ∧ ColOk n cols
  | [], _ => ⟨[], ⟨rfl, fun i a h => by simp at h⟩, fun bs h => by cases h⟩
  | a :: r, h => by
    obtain ⟨cols, c1, c2⟩ := cols_of r fun q hq => h q (List.mem_cons_of_mem _ hq)
    obtain ⟨bs, b1, b2, b3⟩ := h a (List.mem_cons_self ..)
    refine ⟨bs :: cols, ⟨by simp [c1.1], fun i x hx => ?_⟩, fun z hz => ?_⟩
    · cases i with
      | zero =>
        have : a = x := by simpa using hx
        subst this
        exact ⟨bs, rfl, b1⟩
      | succ i => exact c1.2 i x (by simpa using hx)
    · rcases List.mem_cons.mp hz with e | hz
      · rw [e]
        exact ⟨b2, b3⟩
      · exact c2 z hz
theorem SheetD.strong {H : Hp} {d : Addr} {ys : List Str} {m : Nat} (h : SheetD H d ys m) : ∃ cols, SheetC H d ys cols ∧ cols.length = m ∧ ColOk ys.length cols := by
  obtain ⟨t, c, cas, h1, h2, h3, h4, h5⟩ := h
  obtain ⟨cols, c1, c2⟩ := cols_of cas h5
  exact ⟨cols, ⟨t, c, cas, h1, h2, h3, c1⟩, by rw [← c1.1, h4], c2⟩
def cellC (b : Int) : Nat := if b = 1 then 35 else 46
/-- the signs of the k-th track -/
def rowTxt (cols : List (List Int)) (k : Nat) : Str := ⟨(cols.map fun bs => cellC (bs.getD k 0)).toArray⟩
def rowsOf (cols : List (List Int)) (n : Nat) : List Str := (List.range n).map (rowTxt cols)
theorem rowTxt_len (cols : List (List Int)) (k : Nat) : (rowTxt cols k).length = cols.length := by
  show (rowTxt cols k).cps.size = _
  unfold rowTxt
  simp
theorem cellC_or (b : Int) : cellC b = 35 ∨ cellC b = 46 := by
  unfold cellC
  split
  · exact .inl rfl
  · exact .inr rfl
theorem rowTxt_signs {cols : List (List Int)} {k c : Nat} (h : c ∈ (rowTxt cols k).cps.toList) : c = 35 ∨ c = 46 := by
  unfold rowTxt at h
  obtain ⟨bs, _, rfl⟩ := List.mem_map.mp h
  exact cellC_or _
theorem join_ones (cs : List Nat) : Txt.join "" (cs.map fun c => (⟨#[c]⟩ : Str)) = ⟨cs.toArray⟩ := by
  rw [show Txt.join "" (cs.map fun c => (⟨#[c]⟩ : Str)) = Str.join "" _ from StrLaws.glued_eq_join _ _]
  have key : ∀ l : List Nat, (Str.join "" (l.map fun c => (⟨#[c]⟩ : Str))).cps.toList = l := by
    intro l
    induction l with
    | nil => rfl
    | cons a r ih =>
      cases r with
      | nil => rfl
      | cons b r =>
        show (((⟨#[a]⟩ : Str).cps ++ ("" : Str).cps) ++ (Str.join "" ((b :: r).map fun c => (⟨#[c]⟩ : Str))).cps).toList = _
        rw [Array.toList_append, Array.toList_append, ih]
        rfl
  have e := key cs
  generalize Str.join "" (cs.map fun c => (⟨#[c]⟩ : Str)) = z at e ⊢
  obtain ⟨za⟩ := z
  rw [← e]
section
variable {K : PySem.W.Frag} {vs : List V} {H : Hp} {Q : VK} {E : XK}
def sp_cells_text (_ : PySem.W.Frag) : Sp := fun vs H Q _ => ∃ (d : Addr) (k : Nat) (ys : List Str) (cols : List (List Int)), vs = [.ref d, .int (k : Int)] ∧ SheetC H d ys cols ∧ ColOk ys.length cols ∧ k < ys.length ∧ cols.length ≤ 1000000 ∧ ∀ H' : Hp, Ext H H' → Q (.str (rowTxt cols k)) H'
theorem len_cells_text (h : sp_cells_text K vs H Q E) : vs.length = 2 := by
  obtain ⟨_, _, _, _, rfl, _⟩ := h
  rfl
theorem txt_join_len (s : Str) (xs : List Str) : (Txt.join s xs).length ≤ (xs.map (·.length)).sum + xs.length * s.length := by
  rw [show Txt.join s xs = Str.join s xs from StrLaws.glued_eq_join s xs]
  exact StrLaws.join_length_le s xs
def N_cells_text : List Str := ["_law_sheet", "_law_number", "_law_col"]
def t_cells_text (K : PySem.W.Frag) (E : XK) : TS :=
  (tRet (tBM K "str" (zJoin K) (tC (.str "")) (tCons (yLc (jLst K (yDGet (yVar 0) (tC (.str "cols")))) (gName 2) tYes (tOp (zIxL K) (tC (.str ".#")) (tOp (zIxL K) (yVar 2) (yVar 1))) [2]) tNil)))
theorem pure_cells_text (h : sp_cells_text K vs H Q E) : t_cells_text K E (dEnd Q) (start N_cells_text vs) H := by
  obtain ⟨d, k, ys, cols, rfl, ⟨t, c, cas, h1, h2, h3, h4, h5⟩, hc, hk, hm, q⟩ := h
  refine ⟨tyS, _, .ref c, .inl h1, sh_cols, _, SqL.of h3, fun D nD => ⟨fun i acc G => acc = ((cols.take i).map fun bs => V.str ⟨#[cellC (bs.getD k 0)]⟩) ∧ Ext H G ∧ G D = some (.lst acc),
    ⟨by simp, Ext.new nD, upd_same⟩, fun i acc G hi ⟨c1, c3, c4⟩ => ?_, ?_, ?_⟩⟩
  · refine ⟨SqL.of (c3 _ _ h3), c4, ?_⟩
    rw [c1, List.length_map, List.length_take, sizeLine_eq]
    omega
  · rintro i x acc Gx G hi ⟨c1, c3, c4⟩ ⟨rfl, hx⟩
    rw [List.getElem?_map] at hx
    obtain ⟨col, hcol, rfl⟩ := Option.map_eq_some_iff.mp hx
    obtain ⟨bs, b0, b1⟩ := h5 i col hcol
    obtain ⟨b2, b3⟩ := hc bs (List.mem_of_getElem? b0)
    have hlt : k < bs.length := by omega
    have hi2 : i < cols.length := (List.getElem?_eq_some_iff.mp b0).1
    have eb : cols[i] = bs := Option.some.inj ((List.getElem?_eq_getElem hi2).symm.trans b0)
    have ek : bs.getD k 0 = bs[k] := by simp [List.getD_eq_getElem?_getD, hlt]
    refine ⟨rfl, brT rfl ⟨_, .int bs[k], .inl (SqL.of (c3 _ _ b1)), atI_nat (by rw [List.getElem?_map, List.getElem?_eq_getElem hlt]; rfl), by decide, ?_⟩⟩
    have go : G D = some (.lst acc) ∧ acc ++ [V.str ⟨#[cellC bs[k]]⟩] = ((cols.take (i + 1)).map fun bs => V.str ⟨#[cellC (bs.getD k 0)]⟩) ∧ Ext H (upd G D (.lst (acc ++ [V.str ⟨#[cellC bs[k]]⟩]))) ∧ (upd G D (.lst (acc ++ [V.str ⟨#[cellC bs[k]]⟩]))) D = some (.lst (acc ++ [V.str ⟨#[cellC bs[k]]⟩])) :=
      ⟨c4, by rw [List.take_succ_eq_append_getElem hi2, List.map_append, c1, eb, List.map_cons, List.map_nil, ek], c3.mut nD, upd_same⟩
    rcases b3 _ (List.getElem_mem hlt) with e | e
    · exact ⟨46, by rw [e]; rfl, by rw [e] at go; exact go⟩
    · exact ⟨35, by rw [e]; rfl, by rw [e] at go; exact go⟩
  · rintro acc G ⟨c1, c3, c4⟩
    rw [List.length_map, h4, List.take_length] at c1
    have hb := sum_len_le (b := 1) (xs := (cols.map fun bs => cellC (bs.getD k 0)).map fun c => (⟨#[c]⟩ : Str)) fun x hx => by
      obtain ⟨z, _, rfl⟩ := List.mem_map.mp hx
      exact Nat.le_refl 1
    have he : (("" : Str)).length = 0 := rfl
    refine ⟨(cols.map fun bs => cellC (bs.getD k 0)).map fun c => (⟨#[c]⟩ : Str), .inl (SqL.of (by rw [c4, c1, List.map_map, List.map_map]; rfl)), ?_, ?_⟩
    · rw [he]
      rw [List.length_map, List.length_map] at hb ⊢
      omega
    · rw [join_ones]
      exact q G c3
def sp_sheet_text (_ : PySem.W.Frag) : Sp := fun vs H Q _ => ∃ (d : Addr) (ys : List Str) (cols : List (List Int)), vs = [.ref d] ∧ SheetC H d ys cols ∧ ColOk ys.length cols ∧ (∀ y ∈ ys, y.length ≤ 12) ∧ ys.length ≤ 3 ∧ cols.length ≤ 1000000 ∧ ∀ H' : Hp, Ext H H' → Q (.str (txtOf ys (rowsOf cols ys.length))) H'
theorem len_sheet_text (h : sp_sheet_text K vs H Q E) : vs.length = 1 := by
  obtain ⟨_, _, _, rfl, _⟩ := h
  rfl
theorem lineOf_eq (n s : Str) : lineOf n s = n ++ " " ++ s := by
  unfold lineOf
  rw [empty_app]
theorem zip_rows {ys : List Str} {cols : List (List Int)} : List.zipWith lineOf ys (rowsOf cols ys.length) = (List.range ys.length).map fun k => lineOf (ys.getD k "") (rowTxt cols k) := by
  apply List.ext_getElem
  · simp [rowsOf]
  · intro i h1 h2
    have hi : i < ys.length := by simp at h2; exact h2
    simp [rowsOf, hi]
def N_sheet_text : List Str := ["_law_sheet", "_law_lines", "_law_k"]
def t_sheet_text (K : PySem.W.Frag) (E : XK) : TS :=
  (tSeq (tAsg (yLc (jRng (tCB (zLen K) (tCons (yDGet (yVar 0) (tC (.str "tracks"))) tNil))) (gName 2) tYes (tOp zAdd (tOp zAdd (tOp (zIxL K) (yDGet (yVar 0) (tC (.str "tracks"))) (yVar 2)) (tC (.str " "))) (yCall (sp_cells_text K) E0 (tCons (yVar 0) (tCons (yVar 2) tNil)))) [2]) (gName 1))
    (tRet (tBM K "str" (zJoin K) (tC (.str "\n")) (tCons (yVar 1) tNil))))
theorem pure_sheet_text (h : sp_sheet_text K vs H Q E) : t_sheet_text K E (dEnd Q) (start N_sheet_text vs) H := by
  obtain ⟨d, ys, cols, rfl, hS, hc, hn, y3, hm, q⟩ := h
  obtain ⟨t, c, cas, h1, h2, h3, h4⟩ := id hS
  refine ⟨_, .ref t, .inl h1, sh_tracks, _, .inl (SqL.of h2), by rw [List.length_map]; omega, by rw [List.length_map]; omega, fun D nD => ⟨fun i acc G => acc = ((List.range i).map fun k => V.str (lineOf (ys.getD k "") (rowTxt cols k))) ∧ Ext H G ∧ G D = some (.lst acc),
    ⟨by simp, Ext.new nD, upd_same⟩, fun i acc G hi ⟨c1, c3, c4⟩ => ?_, ?_, ?_⟩⟩
  · refine ⟨trivial, c4, ?_⟩
    have hi : i ≤ (((ys.map V.str).length : Nat) : Int).toNat := hi
    rw [List.length_map] at hi
    rw [c1, List.length_map, List.length_range, sizeLine_eq]
    omega
  · rintro i x acc Gx G hi ⟨c1, c3, c4⟩ ⟨rfl, rfl⟩
    have hi : i < (((ys.map V.str).length : Nat) : Int).toNat := hi
    rw [List.length_map] at hi
    have hlt : i < ys.length := by omega
    have ei : (0 + ((i : Nat) : Int)) = ((i : Nat) : Int) := Int.zero_add _
    have hyl := hn _ (List.getElem_mem hlt)
    have e1 : ((" " : Str)).length = 1 := rfl
    have el : lineOf (ys.getD i "") (rowTxt cols i) = ys[i] ++ " " ++ rowTxt cols i := by
      rw [lineOf_eq]
      simp [List.getD_eq_getElem?_getD, hlt]
    refine ⟨rfl, brT rfl ⟨_, .ref t, .inl (c3 _ _ h1), sh_tracks, _, .str ys[i], .inl (SqL.of (c3 _ _ h2)), by rw [ei]; exact atI_nat (by rw [List.getElem?_map, List.getElem?_eq_getElem hlt]; rfl), by rw [sizeLine_eq]; omega, d, i, ys, cols, by show [V.ref d, V.int (0 + ((i:Nat):Int))] = _; rw [ei], hS.ext c3, hc, hlt, hm, fun G' eG => ?_⟩⟩
    refine ⟨by rw [sizeLine_eq, Str.length_append, rowTxt_len]; omega, eG _ _ c4, by rw [List.range_succ, List.map_append, List.map_cons, List.map_nil, c1, el], (c3.trans eG).mut nD, upd_same⟩
  · rintro acc G ⟨c1, c3, c4⟩
    have en : (((ys.map V.str).length : Nat) : Int).toNat = ys.length := by rw [List.length_map]; omega
    rw [en] at c1
    have hb := sum_len_le (b := 1000013) (xs := (List.range ys.length).map fun k => lineOf (ys.getD k "") (rowTxt cols k)) fun x hx => by
      obtain ⟨k, hk, rfl⟩ := List.mem_map.mp hx
      have hk := List.mem_range.mp hk
      have e1 : ((" " : Str)).length = 1 := rfl
      have := hn _ (List.getElem_mem hk)
      rw [lineOf_eq, Str.length_append, Str.length_append, rowTxt_len]
      simp [List.getD_eq_getElem?_getD, hk]
      omega
    rw [List.length_map, List.length_range] at hb
    have z : ys.length * 1000013 ≤ 3 * 1000013 := Nat.mul_le_mul (by omega) (by omega)
    have e : (("\n" : Str)).length = 1 := rfl
    refine ⟨tyS, (List.range ys.length).map fun k => lineOf (ys.getD k "") (rowTxt cols k), .inl (SqL.of (by rw [c4, c1, List.map_map]; rfl)), ?_, ?_⟩
    · rw [e, List.length_map, List.length_range]
      omega
    · have z := q G c3
      unfold txtOf at z
      rw [zip_rows] at z
      exact z
end
section
variable {P : Program} {w : World} {K : PySem.W.Frag} {mg : Str → Option Value} {base : Heap}
abbrev s_new_sheet : Stmt := top 31
theorem sc_new_sheet : FnScope N_new_sheet ["_law_pen", "_law_tracks", "_law_many"] (defScope s_new_sheet) := ⟨rfl, rfl, rfl, by decide +kernel, rfl, by decide +kernel, by decide +kernel⟩
theorem ok_new_sheet {f : Addr} {fd : FuncData} (B : Blt mg) (c_draw : Cal P w K mg base "_law_draw" 1 ["_law_pen", "_law_span"] (sp_draw K))  (F : FunD K "_law_new_sheet" "_law_new_sheet" (defArgs s_new_sheet) (defBody s_new_sheet) (defScope s_new_sheet) [] [] f fd) : FnOk P w K mg base (L2.CX P w) 2 f fd ["_law_pen", "_law_tracks", "_law_many"] (sp_new_sheet K) := by
  refine F.ok sc_new_sheet (fun vs H Q E h => len_new_sheet h) (fun cdv A outer s H vs Q E hr h => ⟨t_new_sheet K E, ?_, pure_new_sheet h⟩)
  have po := passes_of (X := cxOf (L2.CX P w) P w K mg base N_new_sheet "_law_new_sheet" (defScope s_new_sheet) f cdv A outer s H E) rfl
  exact (pss_cons (ps_set (i := 3) sc_new_sheet.nd rfl (by first | exact Or.inl rfl | exact Or.inr rfl) (pe_lst pa_nil))
    (pss_cons (ys_for po rfl (j_lst (yv 1)) (pg_name (i := 4) sc_new_sheet.nd rfl (by first | exact Or.inl rfl | exact Or.inr rfl)) (pss_cons (ys_par3 (ps_par3 (i := 5) (j := 6) (l := 7) (by rfl) sc_new_sheet.nd rfl rfl rfl (by decide) (by decide) (by decide) rfl rfl rfl (PA.up (pa_cons (ye_call c_draw (hr.mono (by decide)) rfl (pa_cons (yv 0) (pa_cons pe_int pa_nil))) (pa_cons (pe_lst pa_nil) (pa_cons (pe_op op_zAdd pe_int (ye_call c_draw (hr.mono (by decide)) rfl (pa_cons (yv 0) (pa_cons pe_int pa_nil)))) pa_nil)))) (by rfl)))
    (pss_cons (ys_for po rfl (j_rng rfl B.range (yv 2)) (pg_name (i := 8) sc_new_sheet.nd rfl (by first | exact Or.inl rfl | exact Or.inr rfl)) (pss_cons (ps_set (i := 5) sc_new_sheet.nd rfl (by first | exact Or.inl rfl | exact Or.inr rfl) (ye_if (yt_cmp op_zEq (ye_call c_draw (hr.mono (by decide)) rfl (pa_cons (yv 0) (pa_cons (yv 7) pa_nil))) pe_int (by rfl)) (pe_op op_zSub pe_int (yv 5)) (yv 5)))
    (pss_one (ps_expr (pe_bm PySem.F.plainAttrs_list PySem.F.slot_list_append PySem.F.type_list_append mt_zApp (yv 6) (pa_cons (yv 5) pa_nil))))))
    (pss_one (ps_expr (pe_bm PySem.F.plainAttrs_list PySem.F.slot_list_append PySem.F.type_list_append mt_zApp (yv 3) (pa_cons (yv 6) pa_nil)))))))
    (pss_one (ps_ret (pe_disp (pps_cons pe_str (pe_callTy cr_list rfl B.list (by decide +kernel) (pa_cons (yv 1) pa_nil)) (pps_cons pe_str (ye_lc (own := [("_law_k", 8)]) (g := (gName 8)) (tt := tYes) rfl sc_new_sheet.nd (j_rng rfl B.range (yv 2)) (blkOk_by (N := N_new_sheet) (sc := defScope s_new_sheet) (by decide +kernel)) (fun _ _ _ _ _ => (pg_name (i := 8) sc_new_sheet.nd rfl (by first | exact Or.inl rfl | exact Or.inr rfl))) (fun _ _ _ _ _ => pts_nil) (fun _ _ _ _ _ => (ye_lc (own := [("_law_row", 6)]) (g := (gName 6)) (tt := tYes) rfl sc_new_sheet.nd (j_lst (yv 3)) (blkOk_in (N := N_new_sheet) (sc := defScope s_new_sheet) rfl rfl (by decide +kernel)) (fun _ _ _ _ _ => (pg_name (i := 6) sc_new_sheet.nd rfl (by first | exact Or.inl rfl | exact Or.inr rfl))) (fun _ _ _ _ _ => pts_nil) (fun _ _ _ _ _ => (pe_ix ix_zIxL (yv 6) (yv 8) (fun _ _ => rfl)))))) pps_nil)) (by rfl) (by rfl) (by simp) (by decide))))))
abbrev s_cells_text : Stmt := top 32
theorem sc_cells_text : FnScope N_cells_text ["_law_sheet", "_law_number"] (defScope s_cells_text) := ⟨rfl, rfl, rfl, by decide +kernel, rfl, by decide +kernel, by decide +kernel⟩
theorem ok_cells_text {f : Addr} {fd : FuncData} (B : Blt mg)   (F : FunD K "_law_cells_text" "_law_cells_text" (defArgs s_cells_text) (defBody s_cells_text) (defScope s_cells_text) [] [] f fd) : FnOk P w K mg base (L2.CX P w) 1 f fd ["_law_sheet", "_law_number"] (sp_cells_text K) := by
  refine F.ok sc_cells_text (fun vs H Q E h => len_cells_text h) (fun cdv A outer s H vs Q E hr h => ⟨t_cells_text K E, ?_, pure_cells_text h⟩)
  have hu := hu_of hr
  exact (pss_one (ps_ret (pe_bm PySem.F.plainAttrs_str PySem.F.slot_str_join PySem.F.type_str_join mt_zJoin pe_str (pa_cons (ye_lc (own := [("_law_col", 2)]) (g := (gName 2)) (tt := tYes) rfl sc_cells_text.nd (j_lst (ye_dget hu (yv 0) pe_str (fun _ _ => rfl))) (blkOk_by (N := N_cells_text) (sc := defScope s_cells_text) (by decide +kernel)) (fun _ _ _ _ _ => (pg_name (i := 2) sc_cells_text.nd rfl (by first | exact Or.inl rfl | exact Or.inr rfl))) (fun _ _ _ _ _ => pts_nil) (fun _ _ _ _ _ => (pe_ix ix_zIxL pe_str (pe_ix ix_zIxL (yv 2) (yv 1) (fun _ _ => rfl)) (fun _ _ => rfl)))) pa_nil))))
abbrev s_sheet_text : Stmt := top 33
theorem sc_sheet_text : FnScope N_sheet_text ["_law_sheet"] (defScope s_sheet_text) := ⟨rfl, rfl, rfl, by decide +kernel, rfl, by decide +kernel, by decide +kernel⟩
theorem ok_sheet_text {f : Addr} {fd : FuncData} (B : Blt mg) (c_cells_text : Cal P w K mg base "_law_cells_text" 1 ["_law_sheet", "_law_number"] (sp_cells_text K))  (F : FunD K "_law_sheet_text" "_law_sheet_text" (defArgs s_sheet_text) (defBody s_sheet_text) (defScope s_sheet_text) [] [] f fd) : FnOk P w K mg base (L2.CX P w) 2 f fd ["_law_sheet"] (sp_sheet_text K) := by
  refine F.ok sc_sheet_text (fun vs H Q E h => len_sheet_text h) (fun cdv A outer s H vs Q E hr h => ⟨t_sheet_text K E, ?_, pure_sheet_text h⟩)
  have hu := hu_of hr
  exact (pss_cons (ys_setLc (i := 1) (own := [("_law_k", 2)]) (g := (gName 2)) (tt := tYes) rfl sc_sheet_text.nd rfl rfl (sw_true rfl rfl rfl (by decide +kernel)) (j_rng rfl B.range (pe_callB cr_len rfl B.len boot_len (pa_cons (ye_dget hu (yv 0) pe_str (fun _ _ => rfl)) pa_nil))) (blkOk_by (N := N_sheet_text) (sc := defScope s_sheet_text) (by decide +kernel)) (fun _ _ _ _ _ => (pg_name (i := 2) sc_sheet_text.nd rfl (by first | exact Or.inl rfl | exact Or.inr rfl))) (fun _ _ _ _ _ => pts_nil) (fun _ _ _ _ _ => (pe_op op_zAdd (pe_op op_zAdd (pe_ix ix_zIxL (ye_dget hu (yv 0) pe_str (fun _ _ => rfl)) (yv 2) (fun _ _ => rfl)) pe_str) (ye_call c_cells_text (hr.mono (by decide)) rfl (pa_cons (yv 0) (pa_cons (yv 2) pa_nil))))))
    (pss_one (ps_ret (pe_bm PySem.F.plainAttrs_str PySem.F.slot_str_join PySem.F.type_str_join mt_zJoin pe_str (pa_cons (yv 1) pa_nil)))))
end
end Eb

namespace Eb
open PySem PySem.Spec PyProof.Rows L2
/-! ### a sheet's text is read back -/
theorem lineOf_two {n s : Str} (hn : ∀ c ∈ n.cps.toList, c ≠ 32) (hs : ∀ c ∈ s.cps.toList, c ≠ 32) : Txt.split (lineOf n s) " " = [n, s] := by
  have q := TL.split_join (y := " ") (s := 32) (S := []) rfl (by decide +kernel) (parts := [n, s]) (by simp) (fun p hp => by
    simp only [List.mem_cons, List.not_mem_nil, or_false] at hp
    rcases hp with rfl | rfl
    · exact fun z => hn 32 z rfl
    · exact fun z => hs 32 z rfl)
  rw [lineOf_eq]
  exact q
theorem app_mem {a b : Str} {c : Nat} : c ∈ (a ++ b).cps.toList ↔ c ∈ a.cps.toList ∨ c ∈ b.cps.toList := by
  show c ∈ (a.cps ++ b.cps).toList ↔ _
  rw [Array.toList_append, List.mem_append]
theorem nameOk_chars {n : Str} (h : nameOk n = true) : ∀ c ∈ n.cps.toList, 97 ≤ c ∧ c ≤ 122 := by
  unfold nameOk allIn at h
  simp only [Bool.and_eq_true, List.all_eq_true, decide_eq_true_eq] at h
  have hl : ∀ c ∈ LETTERS.cps.toList, 97 ≤ c ∧ c ≤ 122 := by decide +kernel
  exact fun c hc => hl c (h.2.2.2 c hc)
theorem rowOk_chars {s : Str} (h : rowOk s = true) : ∀ c ∈ s.cps.toList, c = 35 ∨ c = 46 := by
  unfold rowOk allIn at h
  simp only [Bool.and_eq_true, List.all_eq_true, decide_eq_true_eq] at h
  have hl : ∀ c ∈ (("#." : Str)).cps.toList, c = 35 ∨ c = 46 := by decide +kernel
  exact fun c hc => hl c (h.2.2 c hc)
theorem scan_app : ∀ (ys ss : List Str) (i : Nat) (ns rs : List Str) (m : Nat), ys.length = ss.length → (∀ y ∈ ys, nameOk y = true) → (∀ s ∈ ss, rowOk s = true ∧ s.length = m) → (ns ++ ys).Nodup → ns.length = i → rs.length = i → (∀ s ∈ rs, s.length = m) → i + ys.length ≤ 3 → 1 ≤ i + ys.length →
    scan i ns rs (List.zipWith lineOf ys ss) = .inr (ns ++ ys, rs ++ ss)
  | [], [], i, ns, rs, m, _, _, _, _, hi, _, _, _, h1 => by
    show (if ns = [] then (.inl 1 : Nat ⊕ (List Str × List Str)) else .inr (ns, rs)) = _
    have : ns ≠ [] := fun z => by subst z; simp at hi h1; omega
    rw [if_neg this, List.append_nil, List.append_nil]
  | y :: ys, s :: ss, i, ns, rs, m, hl, hn, hs, hd, hi, hr, hm, h3, h1 => by
    have hy := hn y (List.mem_cons_self ..)
    obtain ⟨hs1, hs2⟩ := hs s (List.mem_cons_self ..)
    have e := lineOf_two (n := y) (s := s) (fun c hc => by have := nameOk_chars hy c hc; omega) (fun c hc => by rcases rowOk_chars hs1 c hc with e | e <;> omega)
    have hl' : (y :: ys).length = ys.length + 1 := rfl
    rw [hl'] at h3 h1
    show scan i ns rs (lineOf y s :: List.zipWith lineOf ys ss) = _
    rw [scan_good e (fun z => by
      rcases z with z | z | z | z | ⟨z1, z2⟩
      · omega
      · rw [hy] at z; cases z
      · have := (List.nodup_append.mp hd).2.2 y z y (List.mem_cons_self ..)
        exact this rfl
      · rw [hs1] at z; cases z
      · refine z2 ?_
        cases rs with
        | nil => simp at hr; omega
        | cons r rr => rw [hs2]; exact (hm r (List.mem_cons_self ..)).symm)]
    rw [scan_app ys ss (i + 1) (ns ++ [y]) (rs ++ [s]) m (by simpa using hl) (fun z hz => hn z (List.mem_cons_of_mem _ hz)) (fun z hz => hs z (List.mem_cons_of_mem _ hz)) (by rw [List.append_assoc]; exact hd) (by simp [hi]) (by simp [hr])
      (fun z hz => by
        rcases List.mem_append.mp hz with z1 | z1
        · exact hm z z1
        · have : z = s := by simpa using z1
          rw [this]; exact hs2) (by omega) (by omega)]
    simp
theorem lines_txt {ys ss : List Str} (hl : ys.length = ss.length) (h1 : 1 ≤ ys.length) (hn : ∀ y ∈ ys, nameOk y = true) (hs : ∀ s ∈ ss, rowOk s = true) : linesOf (txtOf ys ss) = List.zipWith lineOf ys ss := by
  have hne : List.zipWith lineOf ys ss ≠ [] := fun z => by
    have := congrArg List.length z
    rw [List.length_zipWith, ← hl] at this
    simp at this
    rw [this] at h1
    exact absurd h1 (by decide)
  have mem : ∀ l ∈ List.zipWith lineOf ys ss, ∃ y ∈ ys, ∃ s ∈ ss, l = lineOf y s := fun l hlm => by
    obtain ⟨i, hi, rfl⟩ := List.mem_iff_getElem.mp hlm
    rw [List.length_zipWith] at hi
    exact ⟨ys[i]'(by omega), List.getElem_mem _, ss[i]'(by omega), List.getElem_mem _, by rw [List.getElem_zipWith]⟩
  have hc : ∀ l ∈ List.zipWith lineOf ys ss, 10 ∉ l.cps.toList ∧ 1 ≤ l.length := fun l hlm => by
    obtain ⟨y, hy, s, hs', rfl⟩ := mem l hlm
    rw [lineOf_eq]
    refine ⟨fun z => ?_, ?_⟩
    · rcases app_mem.mp z with z | z
      · rcases app_mem.mp z with z | z
        · have := nameOk_chars (hn y hy) 10 z
          omega
        · have z : 10 ∈ [32] := z
          simp at z
      · rcases rowOk_chars (hs s hs') 10 z with e | e <;> omega
    · rw [Str.length_append, Str.length_append]
      have : ((" " : Str)).length = 1 := rfl
      omega
  have q := TL.split_join (y := "\n") (s := 10) (S := []) rfl (by decide +kernel) (parts := List.zipWith lineOf ys ss) hne (fun p hp => (hc p hp).1)
  unfold linesOf txtOf
  rw [if_neg, q]
  intro z
  rw [z] at q
  cases e : List.zipWith lineOf ys ss with
  | nil => exact hne e
  | cons a r =>
    rw [e] at q
    have q : [("" : Str)] = a :: r := q
    have : a = "" := by
      injection q with h _
      exact h.symm
    have h1' := (hc a (by rw [e]; exact List.mem_cons_self ..)).2
    rw [this] at h1'
    have : (("" : Str)).length = 0 := rfl
    omega
/-- a sheet that can be read -/
structure ShOk (ys ss : List Str) (m : Nat) : Prop where
  nd : ys.Nodup
  nm : ∀ y ∈ ys, nameOk y = true
  len : ys.length = ss.length
  one : 1 ≤ ys.length
  three : ys.length ≤ 3
  row : ∀ s ∈ ss, rowOk s = true ∧ s.length = m
theorem ShOk.scan {ys ss : List Str} {m : Nat} (h : ShOk ys ss m) : scan 0 [] [] (linesOf (txtOf ys ss)) = .inr (ys, ss) := by
  rw [lines_txt h.len h.one h.nm (fun s hs => (h.row s hs).1)]
  exact scan_app ys ss 0 [] [] m h.len h.nm h.row h.nd rfl rfl (fun s hs => by cases hs) (by have := h.three; omega) (by have := h.one; omega)
theorem names_ok' : ∀ y ∈ NAMES, nameOk y = true := by decide +kernel
theorem rowTxt_ok {cols : List (List Int)} {k : Nat} (h1 : 1 ≤ cols.length) (h2 : cols.length ≤ 1000) : rowOk (rowTxt cols k) = true := by
  unfold rowOk
  rw [rowTxt_len]
  have : allIn "#." (rowTxt cols k) = true := List.all_eq_true.mpr fun c hc => by
    rcases rowTxt_signs hc with e | e <;> subst e <;> decide
  simp [h1, h2, this]
theorem shOk_plain {ys : List Str} {cols : List (List Int)} (nd : ys.Nodup) (hn : ∀ y ∈ ys, nameOk y = true) (y1 : 1 ≤ ys.length) (y3 : ys.length ≤ 3) (h1 : 1 ≤ cols.length) (h2 : cols.length ≤ 1000) : ShOk ys (rowsOf cols ys.length) cols.length :=
  ⟨nd, hn, by simp [rowsOf], y1, y3, fun s hs => by
    obtain ⟨k, _, rfl⟩ := List.mem_map.mp hs
    exact ⟨rowTxt_ok h1 h2, rowTxt_len _ _⟩⟩
/-! ### the rows by name -/
theorem putK_new {kvs : List (Key × V)} {k : Key} {v : V} (h : k ∉ kvs.map (·.1)) : putK kvs k v = kvs ++ [(k, v)] := by
  unfold putK
  rw [if_neg]
  intro z
  obtain ⟨x, hx, e⟩ := List.any_eq_true.mp z
  exact h (List.mem_map.mpr ⟨x, hx, of_decide_eq_true e⟩)
theorem mergeK_new : ∀ {more kvs : List (Key × V)}, ((kvs ++ more).map (·.1)).Nodup → mergeK kvs more = kvs ++ more
  | [], kvs, _ => by simp [mergeK]
  | (k, v) :: r, kvs, h => by
    show mergeK (putK kvs k v) r = _
    have hk : k ∉ kvs.map (·.1) := fun z => by
      rw [List.map_append] at h
      exact (List.nodup_append.mp h).2.2 k z k (by simp) rfl
    rw [putK_new hk, mergeK_new (by rw [List.append_assoc]; exact h), List.append_assoc]
    rfl
theorem zipK_keys {ns : List Str} {xs : List V} (h : ns.length = xs.length) : (zipK ns xs).map (·.1) = ns.map Sum.inr := by
  unfold zipK
  rw [List.map_fst_zip]
  simp [h]
theorem merge_zip {ns : List Str} {xs : List V} (h : ns.length = xs.length) (nd : ns.Nodup) : mergeK [] (zipK ns xs) = zipK ns xs := by
  have := mergeK_new (kvs := []) (more := zipK ns xs) (by
    rw [List.nil_append, zipK_keys h]
    exact List.Pairwise.map (R := fun a b => a ≠ b) Sum.inr (fun a b hne e => hne (Sum.inr.inj e)) nd)
  simpa using this
theorem val_zip : ∀ {ns : List Str} {xs : List V} {i : Nat} {n : Str} {v : V}, ns.Nodup → ns[i]? = some n → xs[i]? = some v → valV (zipK ns xs) (Sum.inr n) = some v
  | [], _, _, _, _, _, h, _ => by simp at h
  | _ :: _, [], _, _, _, _, _, h => by simp at h
  | a :: ns, x :: xs, 0, n, v, nd, h1, h2 => by
    have e1 : a = n := by simpa using h1
    have e2 : x = v := by simpa using h2
    subst e1 e2
    exact valV_pos rfl
  | a :: ns, x :: xs, i + 1, n, v, nd, h1, h2 => by
    have h1 : ns[i]? = some n := by simpa using h1
    have h2 : xs[i]? = some v := by simpa using h2
    have hne : a ≠ n := fun z => (List.nodup_cons.mp nd).1 (z ▸ List.mem_of_getElem? h1)
    show valV ((Sum.inr a, x) :: zipK ns xs) _ = _
    rw [valV_neg (fun z => hne (Sum.inr.inj z))]
    exact val_zip (List.nodup_cons.mp nd).2 h1 h2
theorem SheetAt.ext {K : PySem.W.Frag} {H H' : Hp} {a : Addr} {ns ss : List Str} (h : SheetAt K H a ns ss) (e : Ext H H') : SheetAt K H' a ns ss := by
  obtain ⟨dx, t1, t2, d, h1, h2, h3, h4⟩ := h
  exact ⟨dx, t1, t2, d, e _ _ h1, e _ _ h2, e _ _ h3, e _ _ h4⟩
theorem not_pen_zip {ns : List Str} {xs : List V} (h : ns.length = xs.length) (nd : ns.Nodup) (hn : ("left" : Str) ∉ ns) : ¬ isPen (.dK (mergeK [] (zipK ns xs))) := by
  rw [merge_zip h nd]
  rintro ⟨c, t, l, e⟩
  have e1 := congrArg (List.map (·.1)) e
  rw [zipK_keys h] at e1
  have e2 : (Sum.inr ("left" : Str) : Key) ∈ ns.map (Sum.inr : Str → Key) := by
    rw [e1]
    show _ ∈ [(Sum.inr ("cells" : Str) : Key), Sum.inr ("turn" : Str), Sum.inr ("left" : Str)]
    simp
  obtain ⟨z, hz, ez⟩ := List.mem_map.mp e2
  exact hn (Sum.inr.inj ez ▸ hz)
theorem left_bad : nameOk "left" = false := by decide +kernel
theorem SheetAt.kp {K : PySem.W.Frag} {H H' : Hp} {a : Addr} {ns ss : List Str} (h : SheetAt K H a ns ss) (k : Kp H H') (nd : ns.Nodup) (hl : ns.length = ss.length) (hn : ∀ n ∈ ns, nameOk n = true) : SheetAt K H' a ns ss := by
  obtain ⟨dx, t1, t2, d, h1, h2, h3, h4⟩ := h
  exact ⟨dx, t1, t2, d, k.keep h1 (fun z => z), k.tup h2, k.tup h3, k.keep h4 (not_pen_zip (by simp [hl]) nd (fun z => by
    have := hn _ z
    rw [left_bad] at this
    cases this))⟩
section
variable {K : PySem.W.Frag} {vs : List V} {H : Hp} {Q : VK} {E : XK}
/-! ### len, [], ==, cells -/
def sp_Sheet_len (K : PySem.W.Frag) : Sp := fun vs H Q _ => ∃ (a : Addr) (ns ss : List Str) (s : Str), vs = [.ref a] ∧ SheetAt K H a ns ss ∧ ss[0]? = some s ∧ s.length ≤ 1000000 ∧ Q (.int s.length) H
theorem len_Sheet_len (h : sp_Sheet_len K vs H Q E) : vs.length = 1 := by
  obtain ⟨_, _, _, _, rfl, _⟩ := h
  rfl
def N_Sheet_len : List Str := ["self"]
def t_Sheet_len (K : PySem.W.Frag) (E : XK) : TS :=
  (tRet (tCB (zLen K) (tCons (tOp (zIxL K) (yFld (isC K ["Sheet"]) (yVar 0) "signs") (tC (.int 0))) tNil)))
theorem pure_Sheet_len (h : sp_Sheet_len K vs H Q E) : t_Sheet_len K E (dEnd Q) (start N_Sheet_len vs) H := by
  obtain ⟨a, ns, ss, s, rfl, ⟨dx, t1, t2, d, h1, h2, h3, h4⟩, hs, hl, q⟩ := h
  refine ⟨_, dx, _, .ref t2, h1, rfl, rfl, _, .str s, .inr (SqT.of h3), atI_nat (by rw [List.getElem?_map, hs]; rfl), by rw [sizeLine_eq]; omega, q⟩
def sp_Sheet_getitem (K : PySem.W.Frag) : Sp := fun vs H Q E => ∃ (a p : Addr) (ns ss : List Str) (m : Nat) (tr : Str) (k : Int), vs = [.ref a, .ref p] ∧ SheetAt K H a ns ss ∧ SqT K H p [.str tr, .int k] ∧ ns.Nodup ∧ ns.length = ss.length ∧ 1 ≤ ns.length ∧ (∀ s ∈ ss, s.length = m) ∧ m ≤ 1000000 ∧ tr.length ≤ 1000000 ∧
  (tr ∉ ns → ∀ (d : Addr) (H' : Hp), Ext H H' → H d = none → H' d = some (.xd [("name", .str tr)]) → E (.ref (He.ga K "NoTrack")) (some d) H') ∧
  (tr ∈ ns → ¬ (0 ≤ k ∧ k < m) → ∀ (d : Addr) (H' : Hp), Ext H H' → H d = none → H' d = some (.xd [("column", .int k)]) → E (.ref (He.ga K "NoColumn")) (some d) H') ∧
  (∀ (i : Nat) (s : Str) (c : Nat), ns[i]? = some tr → ss[i]? = some s → 0 ≤ k → s.cps.toList[k.toNat]? = some c → Q (.bl (decide (c = 35))) H)
theorem len_Sheet_getitem (h : sp_Sheet_getitem K vs H Q E) : vs.length = 2 := by
  obtain ⟨_, _, _, _, _, _, _, rfl, _⟩ := h
  rfl
theorem sign_eq {c : Nat} : decide ((⟨#[c]⟩ : Str) = "#") = decide (c = 35) := by
  have : ((⟨#[c]⟩ : Str) = "#") ↔ c = 35 := by
    constructor
    · intro z
      have z : (⟨#[c]⟩ : Str) = ⟨#[35]⟩ := z
      injection z with z
      simpa using z
    · rintro rfl
      rfl
  exact decide_eq_decide.mpr this
def N_Sheet_getitem : List Str := ["self", "at", "track", "column"]
def t_Sheet_getitem (K : PySem.W.Frag) (E : XK) : TS :=
  (tSeq (tAsg (yVar 1) (gTup K 2 (gCons (gName 2) (gCons (gName 3) gNil))))
    (tSeq (yIf (yTst (tOp (zIn K true) (yVar 2) (yFld (isC K ["Sheet"]) (yVar 0) "tracks"))) (yRaise (yMkR (He.ga K "NoTrack") (spI1 (He.ga K "NoTrack") "name" fmtOk) (tCons (yVar 2) tNil)) (fun cls d _ H => E cls d H)) tNext)
    (tSeq (yIf (yNot (yTst (yChain zLe zLt (tC (.int 0)) (yVar 3) (tCB (zLen K) (tCons (tOp (zIxL K) (yFld (isC K ["Sheet"]) (yVar 0) "signs") (tC (.int 0))) tNil))))) (yRaise (yMkR (He.ga K "NoColumn") (spI1 (He.ga K "NoColumn") "column" anyOk) (tCons (yVar 3) tNil)) (fun cls d _ H => E cls d H)) tNext)
    (tRet (tOp zEq (tOp (zIxL K) (yDGet (yFld (isC K ["Sheet"]) (yVar 0) "row_of") (yVar 2)) (yVar 3)) (tC (.str "#")))))))
theorem pure_Sheet_getitem (h : sp_Sheet_getitem K vs H Q E) : t_Sheet_getitem K E (dEnd Q) (start N_Sheet_getitem vs) H := by
  obtain ⟨a, p, ns, ss, m, tr, k, rfl, ⟨dx, t1, t2, d, h1, h2, h3, h4⟩, hp, nd, hl, n1, hm, hm2, htr, qT, qC, q⟩ := h
  obtain ⟨s0, hs0⟩ : ∃ s, ss[0]? = some s := ⟨ss[0]'(by omega), List.getElem?_eq_getElem (by omega)⟩
  refine ⟨p, _, rfl, hp, rfl, _, _, rfl, _, _, rfl, rfl, ?_⟩
  refine ⟨_, dx, _, .ref t1, h1, rfl, rfl, _, .inr (SqT.of h2), rfl, flat_strs, ?_⟩
  rw [inV_str]
  refine brN (fun h5 => ?_) fun h5 => ?_
  · exact ⟨(show 1 ≤ 1000 by decide), mkR1 (by exact htr) fun d' hd => qT h5 d' _ (Ext.new hd) hd upd_same⟩
  have len0 : s0.length = m := hm s0 (List.mem_of_getElem? hs0)
  have noC : ¬ (0 ≤ k ∧ k < m) → yRaise (yMkR (He.ga K "NoColumn") (spI1 (He.ga K "NoColumn") "column" anyOk) (tCons (yVar 3) tNil)) (fun cls d _ H => E cls d H) (dEnd Q) [some (.ref a), some (.ref p), some (.str tr), some (.int k)] H := fun hk =>
    ⟨(show 1 ≤ 1000 by decide), mkR1 trivial fun d' hd => qC h5 hk d' _ (Ext.new hd) hd upd_same⟩
  refine brD (fun h6 => ?_) fun h6 => ?_
  · refine ⟨_, dx, _, .ref t2, h1, rfl, rfl, _, .str s0, .inr (SqT.of h3), atI_nat (by rw [List.getElem?_map, hs0]; rfl), by rw [sizeLine_eq]; omega, ?_⟩
    refine brN (fun h7 => noC fun z => h7 (by omega)) fun h7 => ?_
    obtain ⟨i, hi, rfl⟩ := List.mem_iff_getElem.mp h5
    have hi1 : ns[i]? = some ns[i] := List.getElem?_eq_getElem hi
    have hi2 : ss[i]? = some (ss[i]'(by omega)) := List.getElem?_eq_getElem (by omega)
    have lk := hm _ (List.mem_of_getElem? hi2)
    have hk : k.toNat < (ss[i]'(by omega)).cps.toList.length := by
      have : (ss[i]'(by omega)).cps.toList.length = (ss[i]'(by omega)).length := by simp [Str.length]
      omega
    refine ⟨_, dx, _, .ref d, h1, rfl, rfl, _, .str (ss[i]'(by omega)), .inl h4, ?_, ?_⟩
    · rw [merge_zip (by simp [hl]) nd]
      exact val_zip nd hi1 (by rw [List.getElem?_map, hi2]; rfl)
    · have hc := List.getElem?_eq_getElem hk
      have ek : k = ((k.toNat : Nat) : Int) := by omega
      have z := q i _ _ hi1 hi2 h6 hc
      refine ⟨by rw [sizeLine_eq]; omega, _, by rw [ek]; exact atI_nat hc, ?_⟩
      rw [← sign_eq] at z
      exact z
  · exact brT rfl (noC fun z => h6 z.1)
def sp_Sheet_eq (K : PySem.W.Frag) : Sp := fun vs H Q _ => ∃ (a b : Addr) (ns ss ns' ss' : List Str), vs = [.ref a, .ref b] ∧ SheetAt K H a ns ss ∧ SheetAt K H b ns' ss' ∧ PlainC K (He.ga K "Sheet") ∧ PySem.W.kitOne K (.ref (He.ga K "Sheet")) (.ref (He.ga K "Sheet")) = some true ∧ Q (.bl (decide (txtOf ns ss = txtOf ns' ss'))) H
theorem len_Sheet_eq (h : sp_Sheet_eq K vs H Q E) : vs.length = 2 := by
  obtain ⟨_, _, _, _, _, _, rfl, _⟩ := h
  rfl
def N_Sheet_eq : List Str := ["self", "other"]
def t_Sheet_eq (K : PySem.W.Frag) (E : XK) : TS :=
  (tRet (yAndV (tCB (zIsO K) (tCons (yVar 1) (tCons (tC (.ref (He.ga K "Sheet"))) tNil))) (tOp zEq (yFld (isC K ["Sheet"]) (yVar 0) "text") (yFld (isC K ["Sheet"]) (yVar 1) "text"))))
theorem pure_Sheet_eq (h : sp_Sheet_eq K vs H Q E) : t_Sheet_eq K E (dEnd Q) (start N_Sheet_eq vs) H := by
  obtain ⟨a, b, ns, ss, ns', ss', rfl, ⟨dx, t1, t2, d, h1, h2, h3, h4⟩, ⟨dx', t1', t2', d', g1, g2, g3, g4⟩, pc, hk, q⟩ := h
  exact ⟨_, true, pc.ty g1, hk, brT rfl ⟨_, dx, _, _, h1, rfl, rfl, _, dx', _, _, g1, rfl, rfl, q⟩⟩
def sp_Sheet_cells (K : PySem.W.Frag) : Sp := fun vs H Q E => ∃ (a : Addr) (ns ss : List Str) (tr : Str), vs = [.ref a, .str tr] ∧ SheetAt K H a ns ss ∧ ns.Nodup ∧ ns.length = ss.length ∧ tr.length ≤ 1000000 ∧
  (tr ∉ ns → ∀ (d : Addr) (H' : Hp), Ext H H' → H d = none → H' d = some (.xd [("name", .str tr)]) → E (.ref (He.ga K "NoTrack")) (some d) H') ∧
  (∀ (i : Nat) (s : Str), ns[i]? = some tr → ss[i]? = some s → Q (.str s) H)
theorem len_Sheet_cells (h : sp_Sheet_cells K vs H Q E) : vs.length = 2 := by
  obtain ⟨_, _, _, _, rfl, _⟩ := h
  rfl
def N_Sheet_cells : List Str := ["self", "track"]
def t_Sheet_cells (K : PySem.W.Frag) (E : XK) : TS :=
  (tSeq (yIf (yTst (tOp (zIn K true) (yVar 1) (yFld (isC K ["Sheet"]) (yVar 0) "tracks"))) (yRaise (yMkR (He.ga K "NoTrack") (spI1 (He.ga K "NoTrack") "name" fmtOk) (tCons (yVar 1) tNil)) (fun cls d _ H => E cls d H)) tNext)
    (tRet (yDGet (yFld (isC K ["Sheet"]) (yVar 0) "row_of") (yVar 1))))
theorem pure_Sheet_cells (h : sp_Sheet_cells K vs H Q E) : t_Sheet_cells K E (dEnd Q) (start N_Sheet_cells vs) H := by
  obtain ⟨a, ns, ss, tr, rfl, ⟨dx, t1, t2, d, h1, h2, h3, h4⟩, nd, hl, htr, qT, q⟩ := h
  refine ⟨_, dx, _, .ref t1, h1, rfl, rfl, _, .inr (SqT.of h2), rfl, flat_strs, ?_⟩
  rw [inV_str]
  refine brN (fun h5 => ?_) fun h5 => ?_
  · exact ⟨(show 1 ≤ 1000 by decide), mkR1 (by exact htr) fun d' hd => qT h5 d' _ (Ext.new hd) hd upd_same⟩
  · obtain ⟨i, hi, rfl⟩ := List.mem_iff_getElem.mp h5
    have hi2 : ss[i]? = some (ss[i]'(by omega)) := List.getElem?_eq_getElem (by omega)
    refine ⟨_, dx, _, .ref d, h1, rfl, rfl, _, .str (ss[i]'(by omega)), .inl h4, ?_, q i _ (List.getElem?_eq_getElem hi) hi2⟩
    rw [merge_zip (by simp [hl]) nd]
    exact val_zip nd (List.getElem?_eq_getElem hi) (by rw [List.getElem?_map, hi2]; rfl)
end
section
variable {P : Program} {w : World} {K : PySem.W.Frag} {mg : Str → Option Value} {base : Heap}
abbrev s_Sheet_len : Stmt := inClass (top 21) 2
theorem sc_Sheet_len : FnScope N_Sheet_len ["self"] (defScope s_Sheet_len) := ⟨rfl, rfl, rfl, by decide +kernel, rfl, by decide +kernel, by decide +kernel⟩
theorem ok_Sheet_len {f : Addr} {fd : FuncData} (B : Blt mg)   (CF : ∀ x f, (x, f) ∈ fldN → Cls K (He.ga K x) ∧ NoAttr K (He.ga K x) f) (F : FunD K "__len__" "Sheet.__len__" (defArgs s_Sheet_len) (defBody s_Sheet_len) (defScope s_Sheet_len) [] [] f fd) : FnOk P w K mg base (L2.CX P w) 1 f fd ["self"] (sp_Sheet_len K) := by
  refine F.ok sc_Sheet_len (fun vs H Q E h => len_Sheet_len h) (fun cdv A outer s H vs Q E hr h => ⟨t_Sheet_len K E, ?_, pure_Sheet_len h⟩)
  exact (pss_one (ps_ret (pe_callB cr_len rfl B.len boot_len (pa_cons (pe_ix ix_zIxL (ye_fld (cf1 (CF "Sheet" "signs" (by decide))) (yv 0) rfl) pe_int (fun _ _ => rfl)) pa_nil))))
abbrev s_Sheet_getitem : Stmt := inClass (top 21) 4
theorem sc_Sheet_getitem : FnScope N_Sheet_getitem ["self", "at"] (defScope s_Sheet_getitem) := ⟨rfl, rfl, rfl, by decide +kernel, rfl, by decide +kernel, by decide +kernel⟩
theorem ok_Sheet_getitem {f : Addr} {fd : FuncData} (B : Blt mg)  (m_NoTrack : Mk P w K mg base "NoTrack" (He.ga K "NoTrack") ["self", "name"] (spI1 (He.ga K "NoTrack") "name" fmtOk)) (m_NoColumn : Mk P w K mg base "NoColumn" (He.ga K "NoColumn") ["self", "column"] (spI1 (He.ga K "NoColumn") "column" anyOk))  (CF : ∀ x f, (x, f) ∈ fldN → Cls K (He.ga K x) ∧ NoAttr K (He.ga K x) f) (F : FunD K "__getitem__" "Sheet.__getitem__" (defArgs s_Sheet_getitem) (defBody s_Sheet_getitem) (defScope s_Sheet_getitem) [] [] f fd) : FnOk P w K mg base (L2.CX P w) 3 f fd ["self", "at"] (sp_Sheet_getitem K) := by
  refine F.ok sc_Sheet_getitem (fun vs H Q E h => len_Sheet_getitem h) (fun cdv A outer s H vs Q E hr h => ⟨t_Sheet_getitem K E, ?_, pure_Sheet_getitem h⟩)
  have hu := hu_of hr
  have tk : Takes (cxOf (L2.CX P w) P w K mg base N_Sheet_getitem "Sheet.__getitem__" (defScope s_Sheet_getitem) f cdv A outer s H E) (fun cls d _ H => E cls d H) := takes_of rfl rfl rfl rfl
  exact (pss_cons (ps_asg (yv 1) (pg_tup rfl (pgs_cons (pg_name (i := 2) sc_Sheet_getitem.nd rfl (by first | exact Or.inl rfl | exact Or.inr rfl)) (pgs_cons (pg_name (i := 3) sc_Sheet_getitem.nd rfl (by first | exact Or.inl rfl | exact Or.inr rfl)) pgs_nil))))
    (pss_cons (ys_if (yt_cmp op_zNotIn (yv 2) (ye_fld (cf1 (CF "Sheet" "tracks" (by decide))) (yv 0) rfl) (by rfl)) (pss_one (ys_raise rfl tk (pm_mk m_NoTrack (hr.mono (by decide)) rfl (pa_cons (yv 2) pa_nil)))) pss_nil)
    (pss_cons (ys_if (yt_not (yt_chain op_zLe op_zLt pe_int (yv 3) (pe_callB cr_len rfl B.len boot_len (pa_cons (pe_ix ix_zIxL (ye_fld (cf1 (CF "Sheet" "signs" (by decide))) (yv 0) rfl) pe_int (fun _ _ => rfl)) pa_nil)))) (pss_one (ys_raise rfl tk (pm_mk m_NoColumn (hr.mono (by decide)) rfl (pa_cons (yv 3) pa_nil)))) pss_nil)
    (pss_one (ps_ret (pe_cmpR op_zEq (pe_ix ix_zIxL (ye_dget hu (ye_fld (cf1 (CF "Sheet" "row_of" (by decide))) (yv 0) rfl) (yv 2) (fun _ _ => rfl)) (yv 3) (fun _ _ => rfl)) pe_str (by rfl)))))))
abbrev s_Sheet_eq : Stmt := inClass (top 21) 5
theorem sc_Sheet_eq : FnScope N_Sheet_eq ["self", "other"] (defScope s_Sheet_eq) := ⟨rfl, rfl, rfl, by decide +kernel, rfl, by decide +kernel, by decide +kernel⟩
theorem ok_Sheet_eq {f : Addr} {fd : FuncData} (B : Blt mg)   (CF : ∀ x f, (x, f) ∈ fldN → Cls K (He.ga K x) ∧ NoAttr K (He.ga K x) f) (GC : ∀ x ∈ clsN, mg x = some (.ref (He.ga K x))) (F : FunD K "__eq__" "Sheet.__eq__" (defArgs s_Sheet_eq) (defBody s_Sheet_eq) (defScope s_Sheet_eq) [] [] f fd) : FnOk P w K mg base (L2.CX P w) 1 f fd ["self", "other"] (sp_Sheet_eq K) := by
  refine F.ok sc_Sheet_eq (fun vs H Q E h => len_Sheet_eq h) (fun cdv A outer s H vs Q E hr h => ⟨t_Sheet_eq K E, ?_, pure_Sheet_eq h⟩)
  exact (pss_one (ps_ret (ye_and (pe_callB cr_isO rfl B.isinstance (by decide +kernel) (pa_cons (yv 1) (pa_cons (pe_glob rfl (GC "Sheet" (by decide)) rfl) pa_nil))) (pe_one (pe_cmpR op_zEq (ye_fld (cf1 (CF "Sheet" "text" (by decide))) (yv 0) rfl) (ye_fld (cf1 (CF "Sheet" "text" (by decide))) (yv 1) rfl) (by rfl))))))
abbrev s_Sheet_cells : Stmt := inClass (top 21) 8
theorem sc_Sheet_cells : FnScope N_Sheet_cells ["self", "track"] (defScope s_Sheet_cells) := ⟨rfl, rfl, rfl, by decide +kernel, rfl, by decide +kernel, by decide +kernel⟩
theorem ok_Sheet_cells {f : Addr} {fd : FuncData} (B : Blt mg)  (m_NoTrack : Mk P w K mg base "NoTrack" (He.ga K "NoTrack") ["self", "name"] (spI1 (He.ga K "NoTrack") "name" fmtOk))  (CF : ∀ x f, (x, f) ∈ fldN → Cls K (He.ga K x) ∧ NoAttr K (He.ga K x) f) (F : FunD K "cells" "Sheet.cells" (defArgs s_Sheet_cells) (defBody s_Sheet_cells) (defScope s_Sheet_cells) [] [] f fd) : FnOk P w K mg base (L2.CX P w) 3 f fd ["self", "track"] (sp_Sheet_cells K) := by
  refine F.ok sc_Sheet_cells (fun vs H Q E h => len_Sheet_cells h) (fun cdv A outer s H vs Q E hr h => ⟨t_Sheet_cells K E, ?_, pure_Sheet_cells h⟩)
  have hu := hu_of hr
  have tk : Takes (cxOf (L2.CX P w) P w K mg base N_Sheet_cells "Sheet.cells" (defScope s_Sheet_cells) f cdv A outer s H E) (fun cls d _ H => E cls d H) := takes_of rfl rfl rfl rfl
  exact (pss_cons (ys_if (yt_cmp op_zNotIn (yv 1) (ye_fld (cf1 (CF "Sheet" "tracks" (by decide))) (yv 0) rfl) (by rfl)) (pss_one (ys_raise rfl tk (pm_mk m_NoTrack (hr.mono (by decide)) rfl (pa_cons (yv 1) pa_nil)))) pss_nil)
    (pss_one (ps_ret (ye_dget hu (ye_fld (cf1 (CF "Sheet" "row_of" (by decide))) (yv 0) rfl) (yv 1) (fun _ _ => rfl)))))
end
end Eb

namespace Eb
open PySem PySem.Spec PyProof.Rows L2
/-! ### tables and pens -/
theorem not_pen_code {c : Addr} {q : Str} : ¬ isPen (LamX.CodeO c q) := fun z => z
theorem not_pen_tbl {ps : Array Value} : ¬ isPen (.tbl ps) := fun z => z
theorem tabs_kp {T : List (Addr × Str)} {H H' : Hp} (t : LamX.Tabs T H) (k : Kp H H') : LamX.Tabs T H' := fun p hp => by
  obtain ⟨ps, h1, h2, h3⟩ := t p hp
  refine ⟨ps, k.keep h1 not_pen_tbl, h2, fun pos cv hc => ?_⟩
  obtain ⟨c, e, hco⟩ := h3 pos cv hc
  exact ⟨c, e, k.keep hco not_pen_code⟩
theorem pen_extN {H H' : Hp} {p c : Addr} {n : Nat} (h : PenAt H p c n) (e : LamX.ExtN H H') : PenAt H' p c n := by
  obtain ⟨t, l, ns, h1, h2, h3, h4⟩ := h.ex
  exact ⟨t, l, ns, e _ _ h1 (by intro _ z; cases z), e _ _ h2 (by intro _ z; cases z), h3, h4⟩
theorem SheetC.extN {H H' : Hp} {d : Addr} {ys : List Str} {cols : List (List Int)} (h : SheetC H d ys cols) (e : LamX.ExtN H H') : SheetC H' d ys cols := by
  obtain ⟨t, c, cas, h1, h2, h3, h4, h5⟩ := h
  refine ⟨t, c, cas, e _ _ h1 (by intro _ z; cases z), e _ _ h2 (by intro _ z; cases z), e _ _ h3 (by intro _ z; cases z), h4, fun i a ha => ?_⟩
  obtain ⟨bs, b1, b2⟩ := h5 i a ha
  exact ⟨bs, b1, e _ _ b2 (by intro _ z; cases z)⟩
theorem SheetAt.extN {K : PySem.W.Frag} {H H' : Hp} {a : Addr} {ns ss : List Str} (h : SheetAt K H a ns ss) (e : LamX.ExtN H H') : SheetAt K H' a ns ss := by
  obtain ⟨dx, t1, t2, d, h1, h2, h3, h4⟩ := h
  exact ⟨dx, t1, t2, d, e _ _ h1 (by intro _ z; cases z), e _ _ h2 (by intro _ z; cases z), e _ _ h3 (by intro _ z; cases z), e _ _ h4 (by intro _ z; cases z)⟩
/-! ### what is shown of data -/
theorem shown_ok {d : PyData} (h1 : d.canLay0 = true) (h2 : d.intsShort 13 = true) (h3 : d.bulk ≤ 2 ^ 20) : d.shown.length ≤ sizeLine := PyData.shown_fits_bulk (B := 13) (by decide) (by decide) (PyData.leavesShort_of_canLay0 13 d h1 h2) h3
theorem bulk_strs {b : Nat} : ∀ {ys : List Str}, (∀ y ∈ ys, y.length ≤ b) → PyData.bulkAll (ys.map .str) ≤ ys.length * (b + 1)
  | [], _ => Nat.zero_le _
  | y :: r, h => by
    have ih := bulk_strs (b := b) (ys := r) fun z hz => h z (List.mem_cons_of_mem _ hz)
    have h1 : y.cps.size ≤ b := h y (List.mem_cons_self ..)
    show PyData.bulk (.str y) + 1 + PyData.bulkAll (r.map .str) ≤ (r.length + 1) * (b + 1)
    have e : PyData.bulk (.str y) = y.cps.size := rfl
    rw [e, Nat.succ_mul]
    omega
theorem txtOf_ok {ys ss : List Str} {m : Nat} (h : ShOk ys ss m) : okS (txtOf ys ss) := fun c hc => by
  have hne : txtOf ys ss ≠ "" := fun z => by rw [z] at hc; cases hc
  have q := lines_txt h.len h.one h.nm fun s hs => (h.row s hs).1
  unfold linesOf at q
  rw [if_neg hne] at q
  have z : Str.join "\n" (Txt.split (txtOf ys ss) "\n") = txtOf ys ss := StrLaws.join_split _ _
  rw [q] at z
  rw [← z] at hc
  have inv : ∀ (xs : List Str) (c : Nat), c ∈ (Str.join "\n" xs).cps.toList → c = 10 ∨ ∃ x ∈ xs, c ∈ x.cps.toList := by
    intro xs
    induction xs with
    | nil => intro c h; cases h
    | cons a r ih =>
      cases r with
      | nil => exact fun c h => .inr ⟨a, by simp, h⟩
      | cons b r =>
        intro c h
        have h : c ∈ ((a.cps ++ (("\n" : Str)).cps) ++ (Str.join "\n" (b :: r)).cps).toList := h
        rw [Array.toList_append, Array.toList_append] at h
        rcases List.mem_append.mp h with h | h
        · rcases List.mem_append.mp h with h | h
          · exact .inr ⟨a, by simp, h⟩
          · have h : c ∈ [10] := h
            exact .inl (by simpa using h)
        · rcases ih c h with h | ⟨x, hx, h⟩
          · exact .inl h
          · exact .inr ⟨x, by simp at hx ⊢; exact .inr hx, h⟩
  rcases inv _ c hc with e | ⟨x, hx, hcx⟩
  · omega
  · obtain ⟨i, hi, rfl⟩ := List.mem_iff_getElem.mp hx
    rw [List.length_zipWith] at hi
    rw [List.getElem_zipWith, lineOf_eq] at hcx
    have hl := h.len
    rcases app_mem.mp hcx with z | z
    · rcases app_mem.mp z with z | z
      · have := nameOk_chars (h.nm _ (List.getElem_mem (l := ys) (n := i) (by omega))) c z
        omega
      · have z : c ∈ [32] := z
        have : c = 32 := by simpa using z
        omega
    · rcases rowOk_chars (h.row _ (List.getElem_mem (l := ss) (n := i) (by omega))).1 c z with e | e <;> omega
theorem txtOf_len {ys ss : List Str} {m : Nat} (h : ShOk ys ss m) : (txtOf ys ss).length ≤ 3 * (m + 14) := by
  have hb := sum_len_le (b := m + 13) (xs := List.zipWith lineOf ys ss) fun x hx => by
    obtain ⟨i, hi, rfl⟩ := List.mem_iff_getElem.mp hx
    rw [List.length_zipWith] at hi
    have hl := h.len
    rw [List.getElem_zipWith, lineOf_eq, Str.length_append, Str.length_append]
    have h1 := (h.row _ (List.getElem_mem (l := ss) (n := i) (by omega))).2
    have h2 := h.nm _ (List.getElem_mem (l := ys) (n := i) (by omega))
    unfold nameOk at h2
    simp only [Bool.and_eq_true, decide_eq_true_eq] at h2
    have h3 := h2.2.1
    have e1 : ((" " : Str)).length = 1 := rfl
    omega
  have h2 := txt_join_len "\n" (List.zipWith lineOf ys ss)
  have e : (("\n" : Str)).length = 1 := rfl
  have hz : (List.zipWith lineOf ys ss).length ≤ 3 := by
    rw [List.length_zipWith]
    have := h.three
    omega
  have h3 : (List.zipWith lineOf ys ss).length * (m + 13) ≤ 3 * (m + 13) := Nat.mul_le_mul_right _ hz
  unfold txtOf
  rw [e] at h2
  omega
end Eb

namespace Eb
open PySem PySem.Spec PyProof.Rows L2
/-! ### comprehensions over a sequence, item by item -/
theorem lc_core {i : Nat} {te : TE} {σ : L2.St} {H : Hp} {Q : VK} {G : Hp → Prop} {xs ys : List V} (hG : ∀ H', Ext H H' → G H') (hl : xs.length < sizeLine) (hw : ∀ x, wipe ((wipe σ [i]).set i (some x)) [i] = wipe σ [i]) (hy : ys.length = xs.length)
    (hf : ∀ (H' : Hp) (j : Nat) (x y : V) (Q' : VK), Ext H H' → xs[j]? = some x → ys[j]? = some y → (∀ H'', Ext H' H'' → Q' y H'') → te ((wipe σ [i]).set i (some x)) H' Q')
    (hq : ∀ D H', H D = none → Ext H H' → H' D = some (.lst ys) → Q (.ref D) H') : ∀ D, H D = none → ∃ Pv : Nat → List V → Hp → Prop, Pv 0 [] (upd H D (.lst [])) ∧ (∀ k acc H, k ≤ xs.length → Pv k acc H → G H ∧ H D = some (.lst acc) ∧ acc.length < sizeLine) ∧
  (∀ k x acc H H', k < xs.length → Pv k acc H → YAt xs k H x H' → gName i x (wipe σ [i]) H' fun σ2 H2 => wipe σ2 [i] = wipe σ [i] ∧ tYes σ2 H2 fun b H3 =>
    yBr b (te σ2 H3 fun y H4 => H4 D = some (.lst acc) ∧ Pv (k + 1) (acc ++ [y]) (upd H4 D (.lst (acc ++ [y])))) (Pv (k + 1) acc H3)) ∧ ∀ acc H, Pv xs.length acc H → Q (.ref D) H := by
  intro D nD
  refine ⟨fun k acc H' => acc = ys.take k ∧ Ext H H' ∧ H' D = some (.lst acc), ⟨by simp, Ext.new nD, upd_same⟩, fun k acc H' hk ⟨c1, c2, c3⟩ => ⟨hG H' c2, c3, ?_⟩, fun k x acc H1 H2 hk ⟨c1, c2, c3⟩ y => ?_, fun acc H' ⟨c1, c2, c3⟩ => ?_⟩
  · rw [c1, List.length_take]
    omega
  · obtain ⟨rfl, hx⟩ := y
    have hy1 : k < ys.length := by omega
    have ey : ys[k]? = some ys[k] := List.getElem?_eq_getElem hy1
    refine ⟨hw _, brT rfl (hf H2 k x ys[k] _ c2 hx ey fun H3 e3 => ⟨e3 _ _ c3, ?_, (c2.trans e3).mut nD, upd_same⟩)⟩
    rw [c1, List.take_succ_eq_append_getElem hy1]
  · refine hq D H' nD c2 ?_
    rw [c3, c1, ← hy, List.take_length]
/-- of a tuple -/
theorem lc_tup {i : Nat} {tl te : TE} {σ : L2.St} {H : Hp} {Q : VK} {K : PySem.W.Frag} {a : Addr} {xs ys : List V} (h : ∀ R : VK, R (.ref a) H → tl σ H R) (ha : SqT K H a xs) (hl : xs.length < sizeLine) (hw : ∀ x, wipe ((wipe σ [i]).set i (some x)) [i] = wipe σ [i]) (hy : ys.length = xs.length)
    (hf : ∀ (H' : Hp) (j : Nat) (x y : V) (Q' : VK), Ext H H' → xs[j]? = some x → ys[j]? = some y → (∀ H'', Ext H' H'' → Q' y H'') → te ((wipe σ [i]).set i (some x)) H' Q')
    (hq : ∀ D H', H D = none → Ext H H' → H' D = some (.lst ys) → Q (.ref D) H') : yLc (jTup K tl) (gName i) tYes te [i] σ H Q :=
  h _ ⟨xs, ha, lc_core (fun H' e => ha.ext e) hl hw hy hf hq⟩
/-- of a list -/
theorem lc_lst {i : Nat} {tl te : TE} {σ : L2.St} {H : Hp} {Q : VK} {K : PySem.W.Frag} {a : Addr} {xs ys : List V} (h : ∀ R : VK, R (.ref a) H → tl σ H R) (ha : SqL K H a xs) (hl : xs.length < sizeLine) (hw : ∀ x, wipe ((wipe σ [i]).set i (some x)) [i] = wipe σ [i]) (hy : ys.length = xs.length)
    (hf : ∀ (H' : Hp) (j : Nat) (x y : V) (Q' : VK), Ext H H' → xs[j]? = some x → ys[j]? = some y → (∀ H'', Ext H' H'' → Q' y H'') → te ((wipe σ [i]).set i (some x)) H' Q')
    (hq : ∀ D H', H D = none → Ext H H' → H' D = some (.lst ys) → Q (.ref D) H') : yLc (jLst K tl) (gName i) tYes te [i] σ H Q :=
  h _ ⟨xs, ha, lc_core (fun H' e => ha.ext e) hl hw hy hf hq⟩
theorem SeqO.len {H : Hp} {p : Addr} {xs : List V} {K : PySem.W.Frag} (h : SeqO H p xs) : SqL K H p xs ∨ SqT K H p xs := h.elim (fun h => .inl (.of h)) fun h => .inr (.of h)
/-- of either -/
theorem lc_seq {i : Nat} {tl te : TE} {σ : L2.St} {H : Hp} {Q : VK} {K : PySem.W.Frag} {a : Addr} {xs ys : List V} (h : ∀ R : VK, R (.ref a) H → tl σ H R) (ha : SeqO H a xs) (hl : xs.length < sizeLine) (hw : ∀ x, wipe ((wipe σ [i]).set i (some x)) [i] = wipe σ [i]) (hy : ys.length = xs.length)
    (hf : ∀ (H' : Hp) (j : Nat) (x y : V) (Q' : VK), Ext H H' → xs[j]? = some x → ys[j]? = some y → (∀ H'', Ext H' H'' → Q' y H'') → te ((wipe σ [i]).set i (some x)) H' Q')
    (hq : ∀ D H', H D = none → Ext H H' → H' D = some (.lst ys) → Q (.ref D) H') : yLc (jOr (jLst K tl) (jTup K tl)) (gName i) tYes te [i] σ H Q :=
  ha.elim (fun ha => .inl (lc_lst h (.of ha) hl hw hy hf hq)) fun ha => .inr (lc_tup h (.of ha) hl hw hy hf hq)
theorem cutV_to {xs : List V} {k : Nat} (h : k ≤ xs.length) : cutV xs none (some ((k : Nat) : Int)) = xs.take k := by
  unfold cutV
  rw [HT.sIx_nat, HT.sIx_none, List.drop_zero, Nat.sub_zero, Nat.min_eq_left h]
/-! ### check_tracks -/
def wrongAt : Nat → List Str → List Str → Option Nat
  | i, _, [] => if i = 0 then some 0 else none
  | i, seen, n :: r => if i = 3 ∨ nameOk n = false ∨ n ∈ seen then some i else wrongAt (i + 1) (seen ++ [n]) r
theorem wrongAt_lt : ∀ {i : Nat} {seen r : List Str} {k : Nat}, i ≤ 3 → wrongAt i seen r = some k → k ≤ 3
  | i, seen, [], k, hi, h => by
    have h : (if i = 0 then some 0 else none) = some k := h
    split at h
    · rw [← Option.some.inj h]
      omega
    · cases h
  | i, seen, n :: r, k, hi, h => by
    have h : (if i = 3 ∨ nameOk n = false ∨ n ∈ seen then some i else wrongAt (i + 1) (seen ++ [n]) r) = some k := h
    split at h
    · rw [← Option.some.inj h]
      exact hi
    · rename_i z
      exact wrongAt_lt (by omega) h
section
variable {K : PySem.W.Frag} {vs : List V} {H : Hp} {Q : VK} {E : XK}
def sp_p_check_tracks (K : PySem.W.Frag) : Sp := fun vs H Q E => ∃ (p : Addr) (xs : List Str), vs = [.ref p] ∧ SeqO H p (xs.map V.str) ∧ (∀ x ∈ xs, x.length < 16777216) ∧ (∀ H, SqT K H (He.ga K "BARRED") (BARRED.map V.str)) ∧
  (∀ i, wrongAt 0 [] xs = some i → ∀ (d : Addr) (H' : Hp), Ext H H' → H d = none → H' d = some (.xd [("index", .int (i : Nat))]) → E (.ref (He.ga K "BadTracks")) (some d) H') ∧
  (wrongAt 0 [] xs = none → ∀ H', Ext H H' → Q .non H')
theorem len_p_check_tracks (h : sp_p_check_tracks K vs H Q E) : vs.length = 1 := by
  obtain ⟨_, _, rfl, _⟩ := h
  rfl
def N_p_check_tracks : List Str := ["tracks", "at", "name"]
def t_p_check_tracks (K : PySem.W.Frag) (E : XK) : TS :=
  (tSeq (yFor (jOr (jEnum K (yVar 0)) (jEnumT K (yVar 0))) (gTup K 2 (gCons (gName 1) (gCons (gName 2) gNil))) (yIf (yOr (yTst (tOp zEq (yVar 1) (tC (.int 3)))) (yOr (yNot (yTst (yCall (sp_p_is_name K) E0 (tCons (yVar 2) tNil)))) (yTst (tOp (zIn K false) (yVar 2) (yOr2 (tSl (zSlL K) (yVar 0) tNoPart (tPart (yVar 1))) (tSl (zSlT K) (yVar 0) tNoPart (tPart (yVar 1)))))))) (yRaise (yMkR (He.ga K "BadTracks") (spI1 (He.ga K "BadTracks") "index" fmtOk) (tCons (yVar 1) tNil)) (fun cls d _ H => E cls d H)) tNext))
    (yIf (yTst (tOp zEq (tCB (zLen K) (tCons (yVar 0) tNil)) (tC (.int 0)))) (yRaise (yMkR (He.ga K "BadTracks") (spI1 (He.ga K "BadTracks") "index" fmtOk) (tCons (tC (.int 0)) tNil)) (fun cls d _ H => E cls d H)) tNext))
theorem small_fmt {i : Nat} (h : i ≤ 3) : fmtOk (.int (i : Nat)) := by
  have : ∀ i < 4, fmtOk (.int ((i : Nat) : Int)) := by
    intro i hi
    show (((i : Nat) : Int)).natAbs.log2 < 1920
    have h2 : ((i : Nat) : Int).natAbs = i := rfl
    rw [h2]
    have h3 : i.log2 ≤ i := by
      rcases Nat.eq_zero_or_pos i with z | z
      · rw [z]
        decide
      · exact Nat.le_of_lt (Nat.lt_of_lt_of_le (Nat.log2_lt (by omega) |>.mpr (Nat.lt_two_pow_self)) (Nat.le_refl _))
    omega
  exact this i (by omega)
theorem pure_p_check_tracks (h : sp_p_check_tracks K vs H Q E) : t_p_check_tracks K E (dEnd Q) (start N_p_check_tracks vs) H := by
  obtain ⟨p, xs, rfl, hp, hl, hB, qE, qQ⟩ := h
  -- by the turn: nothing wrong so far
  have key : ∃ Pv : Nat → L2.St → Hp → Prop, Pv 0 [some (.ref p), none, none] H ∧ (∀ i σ H', i ≤ xs.length → Pv i σ H' → SeqO H' p (xs.map V.str) ∧ (Ext H H' ∧ ∃ x1 x2, σ = [some (.ref p), x1, x2]) ∧ i ≤ 3 ∧ wrongAt i (xs.take i) (xs.drop i) = wrongAt 0 [] xs) ∧
      (∀ i H' x1 x2, SeqO H' p (xs.map V.str) → Ext H H' → i ≤ 3 → wrongAt i (xs.take i) (xs.drop i) = wrongAt 0 [] xs → Pv i [some (.ref p), x1, x2] H') := by
    refine ⟨fun i σ H' => SeqO H' p (xs.map V.str) ∧ (Ext H H' ∧ ∃ x1 x2, σ = [some (.ref p), x1, x2]) ∧ i ≤ 3 ∧ wrongAt i (xs.take i) (xs.drop i) = wrongAt 0 [] xs, ⟨hp, ⟨Ext.refl H, _, _, rfl⟩, by omega, rfl⟩, fun i σ H' _ h => h, fun i H' x1 x2 a b c d => ⟨a, ⟨b, _, _, rfl⟩, c, d⟩⟩
  obtain ⟨Pv, p0, pG, pI⟩ := key
  -- one turn
  have turn : ∀ (i : Nat) (x : V) (T : Addr) (σ : L2.St) (H1 H2 : Hp), i < xs.length → Pv i σ H1 → H1 T = none → H2 = upd H1 T (.tup [.int (i : Nat), x]) → (xs.map V.str)[i]? = some x → ∀ (D : Ends), D.rt = Q → D.nx = Pv (i + 1) → D.ct = Pv (i + 1) →
      gTup K 2 (gCons (gName 1) (gCons (gName 2) gNil)) (.ref T) σ H2 fun σ2 H2 => (yIf (yOr (yTst (tOp zEq (yVar 1) (tC (.int 3)))) (yOr (yNot (yTst (yCall (sp_p_is_name K) E0 (tCons (yVar 2) tNil)))) (yTst (tOp (zIn K false) (yVar 2) (yOr2 (tSl (zSlL K) (yVar 0) tNoPart (tPart (yVar 1))) (tSl (zSlT K) (yVar 0) tNoPart (tPart (yVar 1)))))))) (yRaise (yMkR (He.ga K "BadTracks") (spI1 (He.ga K "BadTracks") "index" fmtOk) (tCons (yVar 1) tNil)) (fun cls d _ H => E cls d H)) tNext) D σ2 H2 := by
    rintro i x T σ H1 H2 hi pv nT rfl hx D rfl dn dc
    obtain ⟨hp1, ⟨e1, x1, x2, rfl⟩, i3, hw⟩ := pG i σ H1 (Nat.le_of_lt hi) pv
    rw [List.getElem?_map] at hx
    obtain ⟨n, hn, rfl⟩ := Option.map_eq_some_iff.mp hx
    have hn' : xs[i] = n := Option.some.inj ((List.getElem?_eq_getElem hi).symm.trans hn)
    have hd : xs.drop i = n :: xs.drop (i + 1) := by rw [List.drop_eq_getElem_cons hi, hn']
    have ht : xs.take (i + 1) = xs.take i ++ [n] := by rw [List.take_succ_eq_append_getElem hi, hn']
    rw [hd] at hw
    have e2 : Ext H1 (upd H1 T (.tup [.int (i : Nat), .str n])) := Ext.new nT
    have bad : (i = 3 ∨ nameOk n = false ∨ n ∈ xs.take i) → ∀ H3, Ext H1 H3 → yRaise (yMkR (He.ga K "BadTracks") (spI1 (He.ga K "BadTracks") "index" fmtOk) (tCons (yVar 1) tNil)) (fun cls d _ H => E cls d H) D [some (.ref p), some (.int (i : Nat)), some (.str n)] H3 := fun hb H3 e3 => by
      have hw2 : wrongAt 0 [] xs = some i := by rw [← hw]; exact if_pos hb
      exact ⟨(show 1 ≤ 1000 by decide), mkR1 (small_fmt i3) fun d hd => qE i hw2 d _ ((e1.trans e3).trans (Ext.new hd)) ((e1.trans e3).back hd) upd_same⟩
    refine ⟨T, _, rfl, SqT.of upd_same, rfl, _, _, rfl, _, _, rfl, rfl, ?_⟩
    refine brD (fun h3 => ?_) fun h3 => ?_
    · have z : ((i : Nat) : Int) = 3 := by simpa using h3
      exact brT rfl (bad (.inl (by omega)) _ e2)
    · have h3 : i ≠ 3 := fun z => h3 (by rw [z]; rfl)
      refine ⟨n, rfl, hl n (List.mem_of_getElem? hn), hB, fun H3 e3 => ?_⟩
      have e13 := e2.trans e3
      refine br (fun h4 => ?_) fun h4 => ?_
      · exact brT rfl (bad (.inr (.inl (by simpa using h4))) _ e13)
      · have h4 : nameOk n = true := by simpa using h4
        have hs := hp1.ext e13
        -- the names ahead
        have go : ∀ (r : Addr) (H4 : Hp), Ext H3 H4 → SeqO H4 r ((xs.take i).map V.str) → yBr (inV (.str n) ((xs.take i).map V.str)) (yRaise (yMkR (He.ga K "BadTracks") (spI1 (He.ga K "BadTracks") "index" fmtOk) (tCons (yVar 1) tNil)) (fun cls d _ H => E cls d H) D [some (.ref p), some (.int (i : Nat)), some (.str n)] H4) (D.nx [some (.ref p), some (.int (i : Nat)), some (.str n)] H4) := fun r H4 e4 hr => by
          rw [inV_str]
          refine brD (fun h5 => bad (.inr (.inr h5)) _ (e13.trans e4)) fun h5 => ?_
          rw [dn]
          refine pI (i + 1) H4 _ _ (hs.ext e4) ((e1.trans e13).trans e4) (by omega) ?_
          rw [← hw, ht]
          exact (if_neg (by rintro (z | z | z)
                            · exact h3 z
                            · rw [h4] at z; cases z
                            · exact h5 z)).symm
        have ec := cutV_to (xs := xs.map V.str) (k := i) (by rw [List.length_map]; omega)
        rw [← List.map_take] at ec
        rcases hs with hs | hs
        · refine .inl ⟨_, rfl, _, SqL.of hs, fun r nr => ⟨_, .inl (SqL.of upd_same), rfl, by rw [ec]; exact flat_strs, ?_⟩⟩
          rw [ec]
          exact go r _ (Ext.new nr) (.inl upd_same)
        · refine .inr ⟨_, rfl, _, SqT.of hs, fun hz => ?_, fun _ r nr => ⟨_, .inr (SqT.of upd_same), rfl, by rw [ec]; exact flat_strs, ?_⟩⟩
          · obtain ⟨_, hz⟩ := hz
            rw [HT.sIx_nat, List.length_map] at hz
            omega
          · rw [ec]
            exact go r _ (Ext.new nr) (.inr upd_same)
  -- the end of the loop
  have fin : ∀ σ H', Pv (xs.map V.str).length σ H' → (yIf (yTst (tOp zEq (tCB (zLen K) (tCons (yVar 0) tNil)) (tC (.int 0)))) (yRaise (yMkR (He.ga K "BadTracks") (spI1 (He.ga K "BadTracks") "index" fmtOk) (tCons (tC (.int 0)) tNil)) (fun cls d _ H => E cls d H)) tNext) (dEnd Q) σ H' := by
    intro σ H' pv
    rw [List.length_map] at pv
    obtain ⟨hp1, ⟨e1, x1, x2, rfl⟩, i3, hw⟩ := pG _ σ H' (Nat.le_refl _) pv
    rw [List.drop_length, List.take_length] at hw
    have hw : (if xs.length = 0 then some 0 else none) = wrongAt 0 [] xs := hw
    refine ⟨_, hp1.len, brD (fun h0 => ?_) fun h0 => ?_⟩
    · have h0 : xs.length = 0 := by simpa using h0
      rw [if_pos h0] at hw
      exact ⟨(show 1 ≤ 1000 by decide), mkR1 (small_fmt (Nat.zero_le 3)) fun d hd => qE 0 hw.symm d _ (e1.trans (Ext.new hd)) (e1.back hd) upd_same⟩
    · have h0 : xs.length ≠ 0 := fun z => h0 (by rw [List.length_map, z]; rfl)
      rw [if_neg h0] at hw
      exact qQ hw.symm H' e1
  have gS : ∀ i σ H', i ≤ (xs.map V.str).length → Pv i σ H' → SeqO H' p (xs.map V.str) := fun i σ H' hi pv => (pG i σ H' (by rw [List.length_map] at hi; exact hi) pv).1
  rcases hp with hp | hp
  · refine .inl ⟨_, SqL.of hp, Pv, p0, fun i σ H' hi pv => ?_, fun i x σ H1 H2 hi pv y => ?_, fin⟩
    · rcases gS i σ H' hi pv with z | z
      · exact SqL.of z
      · exact absurd ((pG i σ H' (by rw [List.length_map] at hi; exact hi) pv).2.1.1 _ _ hp) (by rw [z]; intro z; cases z)
    · obtain ⟨T, u, v, rfl, nT, rfl, eu, ev⟩ := y
      cases eu
      exact turn i v T σ H1 _ (by rw [List.length_map] at hi; exact hi) pv nT rfl ev _ rfl rfl rfl
  · refine .inr ⟨_, SqT.of hp, Pv, p0, fun i σ H' hi pv => ?_, fun i x σ H1 H2 hi pv y => ?_, fin⟩
    · rcases gS i σ H' hi pv with z | z
      · exact absurd ((pG i σ H' (by rw [List.length_map] at hi; exact hi) pv).2.1.1 _ _ hp) (by rw [z]; intro z; cases z)
      · exact SqT.of z
    · obtain ⟨T, u, v, rfl, nT, rfl, eu, ev⟩ := y
      cases eu
      exact turn i v T σ H1 _ (by rw [List.length_map] at hi; exact hi) pv nT rfl ev _ rfl rfl rfl
end
end Eb

namespace Eb
open PySem PySem.Spec PyProof.Rows L2
theorem wrongAt_none : ∀ {i : Nat} {seen r : List Str}, seen.length = i → i ≤ 3 → wrongAt i seen r = none → (∀ n ∈ seen, nameOk n = true) → seen.Nodup → (seen ++ r).length ≤ 3 ∧ 1 ≤ (seen ++ r).length ∧ (∀ n ∈ seen ++ r, nameOk n = true) ∧ (seen ++ r).Nodup
  | i, seen, [], hs, hi, h, hn, nd => by
    have h : (if i = 0 then some 0 else none) = (none : Option Nat) := h
    split at h
    · cases h
    · rw [List.append_nil]
      exact ⟨by omega, by omega, hn, nd⟩
  | i, seen, n :: r, hs, hi, h, hn, nd => by
    have h : (if i = 3 ∨ nameOk n = false ∨ n ∈ seen then some i else wrongAt (i + 1) (seen ++ [n]) r) = none := h
    split at h
    · cases h
    · rename_i z
      have hn1 : nameOk n = true := by
        cases q : nameOk n with
        | true => rfl
        | false => exact absurd (.inr (.inl q)) z
      have hnin : n ∉ seen := fun q => z (.inr (.inr q))
      have := wrongAt_none (i := i + 1) (seen := seen ++ [n]) (r := r) (by simp [hs]) (by omega) h (fun m hm => by
        rcases List.mem_append.mp hm with q | q
        · exact hn m q
        · rw [show m = n by simpa using q]
          exact hn1) (by
        refine List.nodup_append.mpr ⟨nd, by simp, fun a ha b hb => ?_⟩
        rw [show b = n by simpa using hb]
        exact fun e => hnin (e ▸ ha))
      rwa [List.append_assoc] at this
theorem good_of {xs : List Str} (h : wrongAt 0 [] xs = none) : xs.length ≤ 3 ∧ 1 ≤ xs.length ∧ (∀ n ∈ xs, nameOk n = true) ∧ xs.Nodup := wrongAt_none (seen := []) rfl (by decide) h (fun _ z => by cases z) List.nodup_nil
/-- of two tuples side by side -/
theorem lc_zip {i j : Nat} {tl th te : TE} {σ : L2.St} {H : Hp} {Q : VK} {K : PySem.W.Frag} {a b : Addr} {xs ys zs : List V} (h : ∀ R : VK, R (.ref a) H → tl σ H R) (h2 : ∀ R : VK, R (.ref b) H → th σ H R) (ha : SqT K H a xs) (hb : SqT K H b ys) (hl : zs.length < sizeLine)
    (hw : ∀ x y, wipe (((wipe σ [i, j]).set i (some x)).set j (some y)) [i, j] = wipe σ [i, j]) (hz : zs.length = min xs.length ys.length)
    (hf : ∀ (H' : Hp) (k : Nat) (x y z : V) (Q' : VK), Ext H H' → xs[k]? = some x → ys[k]? = some y → zs[k]? = some z → (∀ H'', Ext H' H'' → Q' z H'') → te (((wipe σ [i, j]).set i (some x)).set j (some y)) H' Q')
    (hq : ∀ D H', H D = none → Ext H H' → H' D = some (.lst zs) → Q (.ref D) H') : yLc (jZipT K tl th) (gTup K 2 (gCons (gName i) (gCons (gName j) gNil))) tYes te [i, j] σ H Q := by
  refine h _ (h2 _ ⟨xs, ys, ha, hb, fun D nD => ?_⟩)
  refine ⟨fun k acc H' => acc = zs.take k ∧ Ext H H' ∧ H' D = some (.lst acc), ⟨by simp, Ext.new nD, upd_same⟩, fun k acc H' hk ⟨c1, c2, c3⟩ => ⟨⟨ha.ext c2, hb.ext c2⟩, c3, ?_⟩, fun k x acc H1 H2 hk ⟨c1, c2, c3⟩ y => ?_, fun acc H' ⟨c1, c2, c3⟩ => ?_⟩
  · rw [c1, List.length_take]
    omega
  · obtain ⟨T, u, v, rfl, nT, rfl, eu, ev⟩ := y
    have eu : xs[k]? = some u := eu
    have ev : ys[k]? = some v := ev
    have hz1 : k < zs.length := by omega
    have ez : zs[k]? = some zs[k] := List.getElem?_eq_getElem hz1
    have nDT : D ≠ T := fun z => by rw [z, nT] at c3; cases c3
    have e2 : Ext H1 (upd H1 T (.tup [u, v])) := Ext.new nT
    refine ⟨T, _, rfl, SqT.of upd_same, rfl, _, _, rfl, _, _, rfl, rfl, hw _ _, brT rfl (hf _ k u v zs[k] _ (c2.trans e2) eu ev ez fun H3 e3 => ⟨e3 _ _ (e2 _ _ c3), ?_, ((c2.trans e2).trans e3).mut nD, upd_same⟩)⟩
    rw [c1, List.take_succ_eq_append_getElem hz1]
  · refine hq D H' nD c2 ?_
    rw [c3, c1, ← hz, List.take_length]
theorem eqvAll_strs : ∀ {xs ys : List Str}, PyData.eqvAll (xs.map fun x => dataV (.str x)) (ys.map fun x => dataV (.str x)) = decide (xs = ys)
  | [], [] => by simp [PyData.eqvAll]
  | [], _ :: _ => by simp [PyData.eqvAll]
  | _ :: _, [] => by simp [PyData.eqvAll]
  | x :: xs, y :: ys => by
    have ih := eqvAll_strs (xs := xs) (ys := ys)
    show (PyData.eqv (dataV (.str x)) (dataV (.str y)) && PyData.eqvAll (xs.map fun x => dataV (.str x)) (ys.map fun x => dataV (.str x))) = _
    rw [ih]
    have e : PyData.eqv (dataV (.str x)) (dataV (.str y)) = decide (x = y) := by
      show (x == y) = _
      exact Bool.eq_iff_iff.mpr (by simp)
    rw [e]
    simp
theorem eqv_strsT {xs ys : List Str} : PyData.eqv (.tuple ((xs.map V.str).map dataV)) (.tuple ((ys.map V.str).map dataV)) = decide (xs = ys) := by
  rw [List.map_map, List.map_map]
  exact eqvAll_strs
theorem flat_strs' {xs : List Str} : (xs.map V.str).all flatV = true := by simp [flatV]
/-- what the head tells of Rows -/
structure RK (K : PySem.W.Frag) : Prop where
  pr : PlainC K (He.ga K "Rows")
  kr : PySem.W.kitOne K (.ref (He.ga K "Rows")) (.ref (He.ga K "Rows")) = some true
section
variable {K : PySem.W.Frag} {vs : List V} {H : Hp} {Q : VK} {E : XK}
theorem ext_made {H : Hp} {x dx : Addr} {o o' : HO} (nx : H x = none) (nd : H dx = none) : Ext H (upd (upd H dx o) x o') := fun b u hb => by
  rw [upd_ne (ne_of_none hb nx), upd_ne (ne_of_none hb nd)]
  exact hb
theorem SeqO.ext2 {H H' : Hp} {p : Addr} {xs : List V} (h : SeqO H p xs) (e : Ext H H') : SeqO H' p xs := h.ext e
/-- Rows(p1, p2) -/
theorem mk_rows {R : Addr → Hp → Prop} {E' : XK} {p1 p2 : Addr} {ns ss : List Str} {H1 : Hp} (h1 : SeqO H1 p1 (ns.map V.str)) (h2 : SeqO H1 p2 (ss.map V.str)) (q : ∀ r H2, Ext H1 H2 → H1 r = none → RowsAt K H2 r ns ss → R r H2) :
    ∀ x dx, H1 x = none → H1 dx = none → dx ≠ x → sp_Rows_init K [.ref x, .ref p1, .ref p2] (upd (upd H1 dx (.own x)) x (.ins (He.ga K "Rows") dx [])) (fun v H2 => v = .non ∧ R x H2) E' := by
  intro x dx nx nd hne
  have e := ext_made (o := .own x) (o' := .ins (He.ga K "Rows") dx []) nx nd
  refine ⟨x, p1, p2, dx, _, _, rfl, upd_same, h1.ext e, h2.ext e, fun t1 t2 H' eb ha g1 g2 => ⟨rfl, q x H' (fun b u hb => ?_) nx ⟨dx, t1, t2, ha, g1, g2⟩⟩⟩
  exact eb b u (ne_of_none hb nx) (e b u hb)
/-- Sheet(rows) -/
theorem mk_shr {R : Addr → Hp → Prop} {E' : XK} {r : Addr} {ns ss : List Str} {H1 : Hp} (k : RK K) (hr : RowsAt K H1 r ns ss) (ok : RowsOk ns ss) (q : ∀ a H2, Ext H1 H2 → H1 a = none → SheetAt K H2 a ns ss → R a H2) :
    ∀ x dx, H1 x = none → H1 dx = none → dx ≠ x → sp_Sheet_init K [.ref x, .ref r] (upd (upd H1 dx (.own x)) x (.ins (He.ga K "Sheet") dx [])) (fun v H2 => v = .non ∧ R x H2) E' := by
  intro x dx nx nd hne
  have e := ext_made (o := .own x) (o' := .ins (He.ga K "Sheet") dx []) nx nd
  refine ⟨x, dx, upd_same, .inr ⟨r, ns, ss, rfl, hr.ext e, ok, k.pr, k.kr, fun H' eb hs => ⟨rfl, q x H' (fun b u hb => ?_) nx hs⟩⟩⟩
  exact eb b u (ne_of_none hb nx) (e b u hb)
/-! ### ~ -/
def sp_Sheet_invert (K : PySem.W.Frag) : Sp := fun vs H Q _ => ∃ (a : Addr) (ns ss : List Str), vs = [.ref a] ∧ SheetAt K H a ns ss ∧ RowsOk ns ss ∧ RK K ∧ ∀ b H', Ext H H' → H b = none → SheetAt K H' b ns (ss.map revS) → Q (.ref b) H'
theorem len_Sheet_invert (h : sp_Sheet_invert K vs H Q E) : vs.length = 1 := by
  obtain ⟨_, _, _, rfl, _⟩ := h
  rfl
theorem RowsOk.map {ns ss : List Str} {f : Str → Str} (h : RowsOk ns ss) (hf : ∀ s ∈ ss, (f s).length ≤ 1000000) : RowsOk ns (ss.map f) := ⟨by rw [List.length_map]; exact h.len, h.three, h.nm, fun s hs => by
  obtain ⟨z, hz, rfl⟩ := List.mem_map.mp hs
  exact hf z hz⟩
def N_Sheet_invert : List Str := ["self", "row"]
def t_Sheet_invert (K : PySem.W.Frag) (E : XK) : TS :=
  (tRet (yNew (He.ga K "Sheet") (sp_Sheet_init K) (fun cls d _ H => E cls d H) (tCons (yNew (He.ga K "Rows") (sp_Rows_init K) W0 (tCons (yFld (isC K ["Sheet"]) (yVar 0) "tracks") (tCons (yLc (jTup K (yFld (isC K ["Sheet"]) (yVar 0) "signs")) (gName 1) tYes (yRevS (yVar 1) (tUn zNeg (tC (.int 1)))) [1]) tNil))) tNil)))
theorem pure_Sheet_invert (h : sp_Sheet_invert K vs H Q E) : t_Sheet_invert K E (dEnd Q) (start N_Sheet_invert vs) H := by
  obtain ⟨a, ns, ss, rfl, hS, ok, rk, q⟩ := h
  obtain ⟨dx, t1, t2, d, h1, h2, h3, h4⟩ := id hS
  refine ⟨_, dx, _, .ref t1, h1, rfl, rfl, ?_⟩
  refine lc_tup (a := t2) (xs := ss.map V.str) (ys := (ss.map revS).map V.str) (fun R hR => ⟨_, dx, _, .ref t2, h1, rfl, rfl, hR⟩) (.of h3) ?_ (by intro x; rfl) (by simp) (fun H' j x y Q' e hx hy k => ?_) fun D H' nD e hD => ?_
  · rw [List.length_map, ← ok.len, sizeLine_eq]
    have := ok.three
    omega
  · rw [List.getElem?_map] at hx
    obtain ⟨s, hs, rfl⟩ := Option.map_eq_some_iff.mp hx
    rw [List.getElem?_map, List.getElem?_map, hs] at hy
    cases hy
    refine ⟨rfl, ?_, k H' (Ext.refl _)⟩
    have := ok.row s (List.mem_of_getElem? hs)
    rw [sizeLine_eq]
    omega
  · refine mk_rows (K := K) (ns := ns) (ss := ss.map revS) (.inr (e _ _ h2)) (.inl hD) fun r H2 e2 nr hr => ?_
    refine mk_shr rk hr (ok.map fun s hs => by rw [revS_len]; exact ok.row s hs) fun b H3 e3 nb hS => ?_
    exact q b H3 ((e.trans e2).trans e3) ((e.trans e2).back nb) hS
/-! ### + -/
def sp_Sheet_add (K : PySem.W.Frag) : Sp := fun vs H Q E => ∃ (a b : Addr) (ns ss ns' ss' : List Str), vs = [.ref a, .ref b] ∧ SheetAt K H a ns ss ∧ SheetAt K H b ns' ss' ∧ RowsOk ns ss ∧ RowsOk ns' ss' ∧ (∀ s ∈ ss, s.length ≤ 400000) ∧ (∀ s ∈ ss', s.length ≤ 400000) ∧ (∀ n ∈ ns, okV (.str n) = true) ∧ (∀ n ∈ ns', okV (.str n) = true) ∧ RK K ∧
  (ns ≠ ns' → E (.ref (He.ga K "OtherTracks")) none H) ∧ (ns = ns' → ∀ c H', Ext H H' → H c = none → SheetAt K H' c ns (List.zipWith (· ++ ·) ss ss') → Q (.ref c) H')
theorem len_Sheet_add (h : sp_Sheet_add K vs H Q E) : vs.length = 2 := by
  obtain ⟨_, _, _, _, _, _, rfl, _⟩ := h
  rfl
def N_Sheet_add : List Str := ["self", "other", "one", "two"]
def t_Sheet_add (K : PySem.W.Frag) (E : XK) : TS :=
  (tSeq (yIf (yTst (tOp (zNeD K) (yFld (isC K ["Sheet"]) (yVar 0) "tracks") (yFld (isC K ["Sheet"]) (yVar 1) "tracks"))) (yRaise (yMkR (He.ga K "OtherTracks") (spI0 (He.ga K "OtherTracks")) tNil) (fun cls d _ H => E cls d H)) tNext)
    (tRet (yNew (He.ga K "Sheet") (sp_Sheet_init K) (fun cls d _ H => E cls d H) (tCons (yNew (He.ga K "Rows") (sp_Rows_init K) W0 (tCons (yFld (isC K ["Sheet"]) (yVar 0) "tracks") (tCons (yLc (jZipT K (yFld (isC K ["Sheet"]) (yVar 0) "signs") (yFld (isC K ["Sheet"]) (yVar 1) "signs")) (gTup K 2 (gCons (gName 2) (gCons (gName 3) gNil))) tYes (tOp zAdd (yVar 2) (yVar 3)) [2, 3]) tNil))) tNil))))
theorem pure_Sheet_add (h : sp_Sheet_add K vs H Q E) : t_Sheet_add K E (dEnd Q) (start N_Sheet_add vs) H := by
  obtain ⟨a, b, ns, ss, ns', ss', rfl, hA, hB, ok, ok', l1, l2, lay, lay', rk, qE, q⟩ := h
  obtain ⟨dx, t1, t2, d, h1, h2, h3, h4⟩ := id hA
  obtain ⟨dy, u1, u2, d', g1, g2, g3, g4⟩ := id hB
  have la : (ns.map V.str).all okV = true := List.all_eq_true.mpr fun z hz => by
    obtain ⟨n, hn, rfl⟩ := List.mem_map.mp hz
    exact lay n hn
  have lb : (ns'.map V.str).all okV = true := List.all_eq_true.mpr fun z hz => by
    obtain ⟨n, hn, rfl⟩ := List.mem_map.mp hz
    exact lay' n hn
  refine ⟨_, dx, _, .ref t1, h1, rfl, rfl, _, dy, _, .ref u1, g1, rfl, rfl, _, _, .tup (SqT.of h2) (dpAll_flat flat_strs'), .tup (SqT.of g2) (dpAll_flat flat_strs'), shaped_flatT la, shaped_flatT lb, ?_⟩
  rw [eqv_strsT]
  refine brN (fun hne => ?_) fun he => ?_
  · exact ⟨(show 0 ≤ 1000 by decide), mkR0 (qE hne)⟩
  · subst he
    refine ⟨_, dx, _, .ref t1, h1, rfl, rfl, ?_⟩
    refine lc_zip (a := t2) (b := u2) (xs := ss.map V.str) (ys := ss'.map V.str) (zs := (List.zipWith (· ++ ·) ss ss').map V.str) (fun R hR => ⟨_, dx, _, .ref t2, h1, rfl, rfl, hR⟩) (fun R hR => ⟨_, dy, _, .ref u2, g1, rfl, rfl, hR⟩) (.of h3) (.of g3) ?_ (by intro x y; rfl) (by simp) (fun H' k x y z Q' e hx hy hz kk => ?_) fun D H' nD e hD => ?_
    · rw [List.length_map, List.length_zipWith, sizeLine_eq]
      have := ok.three
      have := ok.len
      omega
    · rw [List.getElem?_map] at hx hy hz
      obtain ⟨s, hs, rfl⟩ := Option.map_eq_some_iff.mp hx
      obtain ⟨s', hs', rfl⟩ := Option.map_eq_some_iff.mp hy
      rw [List.getElem?_zipWith, hs, hs'] at hz
      cases hz
      refine ⟨?_, kk H' (Ext.refl _)⟩
      have := l1 s (List.mem_of_getElem? hs)
      have := l2 s' (List.mem_of_getElem? hs')
      rw [sizeLine_eq]
      omega
    · have okz : RowsOk ns (List.zipWith (· ++ ·) ss ss') := ⟨by
        rw [List.length_zipWith, ← ok.len, ← ok'.len]
        omega, ok.three, ok.nm, fun s hs => by
        obtain ⟨i, hi, rfl⟩ := List.mem_iff_getElem.mp hs
        rw [List.length_zipWith] at hi
        rw [List.getElem_zipWith, Str.length_append]
        have := l1 _ (List.getElem_mem (l := ss) (n := i) (by omega))
        have := l2 _ (List.getElem_mem (l := ss') (n := i) (by omega))
        omega⟩
      refine mk_rows (K := K) (ns := ns) (ss := List.zipWith (· ++ ·) ss ss') (.inr (e _ _ h2)) (.inl hD) fun r H2 e2 nr hr => ?_
      refine mk_shr rk hr okz fun c H3 e3 nc hS => ?_
      exact q rfl c H3 ((e.trans e2).trans e3) ((e.trans e2).back nc) hS
/-! ### blank -/
theorem yVar_at {i : Nat} {σ : L2.St} {H : Hp} {v : V} {Q : VK} (h : σ[i]? = some (some v)) (q : Q v H) : yVar i σ H Q := by
  unfold yVar
  rw [h]
  exact q
def sp_Sheet_blank (K : PySem.W.Frag) : Sp := fun vs H Q E => ∃ (p : Addr) (xs : List Str) (n : Int), vs = [.ref (He.ga K "Sheet"), .ref p, .int n] ∧ SeqO H p (xs.map V.str) ∧ (∀ x ∈ xs, x.length < 16777216) ∧ (∀ H, SqT K H (He.ga K "BARRED") (BARRED.map V.str)) ∧ RK K ∧
  (∀ i, wrongAt 0 [] xs = some i → ∀ (d : Addr) (H' : Hp), Ext H H' → H d = none → H' d = some (.xd [("index", .int (i : Nat))]) → E (.ref (He.ga K "BadTracks")) (some d) H') ∧
  (wrongAt 0 [] xs = none → ¬ (1 ≤ n ∧ n ≤ 1000) → ∀ (d : Addr) (H' : Hp), Ext H H' → H d = none → H' d = some (.xd [("count", .int n)]) → E (.ref (He.ga K "BadCount")) (some d) H') ∧
  (wrongAt 0 [] xs = none → 1 ≤ n → n ≤ 1000 → ∀ a H', Ext H H' → H a = none → SheetAt K H' a xs (xs.map fun _ => repS "." n.toNat) → Q (.ref a) H')
theorem len_Sheet_blank (h : sp_Sheet_blank K vs H Q E) : vs.length = 3 := by
  obtain ⟨_, _, _, rfl, _⟩ := h
  rfl
def N_Sheet_blank : List Str := ["cls", "tracks", "n", "track"]
def t_Sheet_blank (K : PySem.W.Frag) (E : XK) : TS :=
  (tSeq (tDrop (yCallS (sp_p_check_tracks K) (fun cls d _ H => E cls d H) (tCons (yVar 1) tNil)))
    (tSeq (yIf (yNot (yTst (yChain zLe zLe (tC (.int 1)) (yVar 2) (tC (.int 1000))))) (yRaise (yMkR (He.ga K "BadCount") (spI1 (He.ga K "BadCount") "count" anyOk) (tCons (yVar 2) tNil)) (fun cls d _ H => E cls d H)) tNext)
    (tRet (yNewV 0 (He.ga K "Sheet") (sp_Sheet_init K) W0 (tCons (yNew (He.ga K "Rows") (sp_Rows_init K) W0 (tCons (yVar 1) (tCons (yLc (jOr (jLst K (yVar 1)) (jTup K (yVar 1))) (gName 3) tYes (tOp zRepS (tC (.str ".")) (yVar 2)) [3]) tNil))) tNil)))))
theorem nameOk_12 {n : Str} (h : nameOk n = true) : n.length ≤ 12 := by
  unfold nameOk at h
  simp only [Bool.and_eq_true, decide_eq_true_eq] at h
  exact h.2.1
theorem pure_Sheet_blank (h : sp_Sheet_blank K vs H Q E) : t_Sheet_blank K E (dEnd Q) (start N_Sheet_blank vs) H := by
  obtain ⟨p, xs, n, rfl, hp, hl, hB, rk, qT, qC, q⟩ := h
  refine ⟨p, xs, rfl, hp, hl, hB, qT, fun hg H1 e1 => ?_⟩
  obtain ⟨g1, g2, g3, g4⟩ := good_of hg
  have bad : ¬ (1 ≤ n ∧ n ≤ 1000) → yRaise (yMkR (He.ga K "BadCount") (spI1 (He.ga K "BadCount") "count" anyOk) (tCons (yVar 2) tNil)) (fun cls d _ H => E cls d H) (dEnd Q) [some (.ref (He.ga K "Sheet")), some (.ref p), some (.int n), none] H1 := fun hn =>
    ⟨(show 1 ≤ 1000 by decide), mkR1 trivial fun d hd => qC hg hn d _ (e1.trans (Ext.new hd)) (e1.back hd) upd_same⟩
  refine brD (fun h1 => brN (fun h2 => bad fun z => h2 z.2) fun h2 => ?_) fun h1 => brT rfl (bad fun z => h1 z.1)
  dsimp only [tNext, tSeq, tRet, yNewV, yNew, tCons, tNil]
  refine ⟨rfl, yVar_at rfl ?_⟩
  refine lc_seq (a := p) (xs := xs.map V.str) (ys := (xs.map fun _ => repS "." n.toNat).map V.str) (fun R hR => hR) (hp.ext e1) ?_ (by intro x; rfl) (by simp) (fun H' j x y Q' e hx hy k => ?_) fun D H' nD e hD => ?_
  · rw [List.length_map, sizeLine_eq]
    omega
  · rw [List.getElem?_map] at hx
    obtain ⟨s, hs, rfl⟩ := Option.map_eq_some_iff.mp hx
    rw [List.getElem?_map, List.getElem?_map, hs] at hy
    cases hy
    exact ⟨by omega, by omega, by decide, k H' (Ext.refl _)⟩
  · refine mk_rows (K := K) (ns := xs) (ss := xs.map fun _ => repS "." n.toNat) ((hp.ext e1).ext e) (.inl hD) fun r H2 e2 nr hr => ?_
    have okz : RowsOk xs (xs.map fun _ => repS "." n.toNat) := ⟨by simp, g1, fun m hm => nameOk_12 (g3 m hm), fun s hs => by
      obtain ⟨_, _, rfl⟩ := List.mem_map.mp hs
      rw [repS_len]
      have : (("." : Str)).length = 1 := rfl
      rw [this, Nat.mul_one]
      omega⟩
    refine mk_shr rk hr okz fun c H3 e3 nc hS => ?_
    exact q hg h1 h2 c H3 (((e1.trans e).trans e2).trans e3) (((e1.trans e).trans e2).back nc) hS
/-! ### cut -/
def offS (m : Nat) (c : Int) : Bool := !(decide (0 ≤ c) && decide (c < (m : Int)))
def pickI (ks : List Int) (s : Str) : Str := Txt.join "" (ks.map fun k => (⟨#[s.cps.getD k.toNat 0]⟩ : Str))
def sp_Sheet_cut (K : PySem.W.Frag) : Sp := fun vs H Q E => ∃ (a p : Addr) (ns ss : List Str) (cs : List Int) (m : Nat), vs = [.ref a, .ref p] ∧ SheetAt K H a ns ss ∧ RowsOk ns ss ∧ 1 ≤ ns.length ∧ (∀ s ∈ ss, s.length = m) ∧ m ≤ 400000 ∧ SeqO H p (cs.map V.int) ∧ cs.length ≤ 62 ∧ RK K ∧
  (∀ c, cs.find? (offS m) = some c → ∀ (d : Addr) (H' : Hp), Ext H H' → H d = none → H' d = some (.xd [("column", .int c)]) → E (.ref (He.ga K "NoColumn")) (some d) H') ∧
  (cs = [] → ∀ (d : Addr) (H' : Hp), Ext H H' → H d = none → H' d = some (.xd [("count", .int 0)]) → E (.ref (He.ga K "BadCount")) (some d) H') ∧
  (cs.find? (offS m) = none → cs ≠ [] → ∀ ks : List Int, ks.Pairwise (· < ·) → (∀ k, k ∈ ks ↔ k ∈ cs) → ∀ b H', Ext H H' → H b = none → SheetAt K H' b ns (ss.map (pickI ks)) → Q (.ref b) H')
theorem len_Sheet_cut (h : sp_Sheet_cut K vs H Q E) : vs.length = 2 := by
  obtain ⟨_, _, _, _, _, _, rfl, _⟩ := h
  rfl
def N_Sheet_cut : List Str := ["self", "columns", "column", "kept", "row"]
def t_Sheet_cut (K : PySem.W.Frag) (E : XK) : TS :=
  (tSeq (yFor (jOr (jLst K (yVar 1)) (jTup K (yVar 1))) (gName 2) (yIf (yNot (yTst (yChain zLe zLt (tC (.int 0)) (yVar 2) (tCB (zLen K) (tCons (tOp (zIxL K) (yFld (isC K ["Sheet"]) (yVar 0) "signs") (tC (.int 0))) tNil))))) (yRaise (yMkR (He.ga K "NoColumn") (spI1 (He.ga K "NoColumn") "column" anyOk) (tCons (yVar 2) tNil)) (fun cls d _ H => E cls d H)) tNext))
    (tSeq (yIf (yTst (tOp zEq (tCB (zLen K) (tCons (yVar 1) tNil)) (tC (.int 0)))) (yRaise (yMkR (He.ga K "BadCount") (spI1 (He.ga K "BadCount") "count" anyOk) (tCons (tC (.int 0)) tNil)) (fun cls d _ H => E cls d H)) tNext)
    (tSeq (tAsg (ySrtSet K (yLc (jOr (jLst K (yVar 1)) (jTup K (yVar 1))) (gName 2) tYes (tCB zInt (tCons (yVar 2) tNil)) [2])) (gName 3))
    (tRet (yNew (He.ga K "Sheet") (sp_Sheet_init K) (fun cls d _ H => E cls d H) (tCons (yNew (He.ga K "Rows") (sp_Rows_init K) W0 (tCons (yFld (isC K ["Sheet"]) (yVar 0) "tracks") (tCons (yLc (jTup K (yFld (isC K ["Sheet"]) (yVar 0) "signs")) (gName 4) tYes (tBM K "str" (zJoin K) (tC (.str "")) (tCons (yLc (jLst K (yVar 3)) (gName 2) tYes (tOp (zIxL K) (yVar 4) (yVar 2)) [2]) tNil)) [4]) tNil))) tNil))))))
def t_cut_tail (K : PySem.W.Frag) (E : XK) : TS :=
  (tSeq (yIf (yTst (tOp zEq (tCB (zLen K) (tCons (yVar 1) tNil)) (tC (.int 0)))) (yRaise (yMkR (He.ga K "BadCount") (spI1 (He.ga K "BadCount") "count" anyOk) (tCons (tC (.int 0)) tNil)) (fun cls d _ H => E cls d H)) tNext)
    (tSeq (tAsg (ySrtSet K (yLc (jOr (jLst K (yVar 1)) (jTup K (yVar 1))) (gName 2) tYes (tCB zInt (tCons (yVar 2) tNil)) [2])) (gName 3))
    (tRet (yNew (He.ga K "Sheet") (sp_Sheet_init K) (fun cls d _ H => E cls d H) (tCons (yNew (He.ga K "Rows") (sp_Rows_init K) W0 (tCons (yFld (isC K ["Sheet"]) (yVar 0) "tracks") (tCons (yLc (jTup K (yFld (isC K ["Sheet"]) (yVar 0) "signs")) (gName 4) tYes (tBM K "str" (zJoin K) (tC (.str "")) (tCons (yLc (jLst K (yVar 3)) (gName 2) tYes (tOp (zIxL K) (yVar 4) (yVar 2)) [2]) tNil)) [4]) tNil))) tNil)))))
theorem nodup_sub_len : ∀ {ks cs : List Int}, ks.Nodup → (∀ k ∈ ks, k ∈ cs) → ks.length ≤ cs.length
  | [], _, _, _ => Nat.zero_le _
  | k :: r, cs, nd, h => by
    obtain ⟨n1, n2⟩ := List.nodup_cons.mp nd
    have hk := h k (List.mem_cons_self ..)
    have := nodup_sub_len (ks := r) (cs := cs.erase k) n2 fun x hx => (List.mem_erase_of_ne (fun (z : x = k) => n1 (z ▸ hx))).mpr (h x (List.mem_cons_of_mem _ hx))
    rw [List.length_erase_of_mem hk] at this
    have := List.length_pos_of_mem hk
    rw [List.length_cons]
    omega
theorem find_take {α : Type} {f : α → Bool} {l : List α} {i : Nat} {x : α} (h : (l.take i).find? f = none) (hx : l[i]? = some x) (hf : f x = true) : l.find? f = some x := by
  have hi : i < l.length := (List.getElem?_eq_some_iff.mp hx).1
  have e : l = l.take i ++ x :: l.drop (i + 1) := by
    rw [← List.getElem?_eq_getElem hi |>.symm.trans hx |> Option.some.inj, ← List.drop_eq_getElem_cons hi, List.take_append_drop]
  rw [e, List.find?_append, h]
  simp [hf]
theorem find_take1 {α : Type} {f : α → Bool} {l : List α} {i : Nat} {x : α} (h : (l.take i).find? f = none) (hx : l[i]? = some x) (hf : f x = false) : (l.take (i + 1)).find? f = none := by
  have hi : i < l.length := (List.getElem?_eq_some_iff.mp hx).1
  have hx' : l[i] = x := Option.some.inj ((List.getElem?_eq_getElem hi).symm.trans hx)
  rw [List.take_succ_eq_append_getElem hi, List.find?_append, h, hx']
  simp [hf]
theorem pickI_len {ks : List Int} {s : Str} : (pickI ks s).length ≤ ks.length := by
  unfold pickI
  have h := txt_join_len "" (ks.map fun k => (⟨#[s.cps.getD k.toNat 0]⟩ : Str))
  have hb := sum_len_le (b := 1) (xs := ks.map fun k => (⟨#[s.cps.getD k.toNat 0]⟩ : Str)) fun x hx => by
    obtain ⟨z, _, rfl⟩ := List.mem_map.mp hx
    exact Nat.le_refl 1
  have he : (("" : Str)).length = 0 := rfl
  rw [he] at h
  rw [List.length_map] at hb h
  omega
theorem cut_tail {a p : Addr} {ns ss : List Str} {cs : List Int} {m : Nat} {x2 : Option V} (hS : SheetAt K H a ns ss) (ok : RowsOk ns ss) (hm : ∀ s ∈ ss, s.length = m) (hp : SeqO H p (cs.map V.int)) (hc : cs.length ≤ 62) (rk : RK K)
    (qB : cs = [] → ∀ (d : Addr) (H' : Hp), Ext H H' → H d = none → H' d = some (.xd [("count", .int 0)]) → E (.ref (He.ga K "BadCount")) (some d) H') (hn : cs.find? (offS m) = none)
    (q : cs ≠ [] → ∀ ks : List Int, ks.Pairwise (· < ·) → (∀ k, k ∈ ks ↔ k ∈ cs) → ∀ b H', Ext H H' → H b = none → SheetAt K H' b ns (ss.map (pickI ks)) → Q (.ref b) H') :
    t_cut_tail K E (dEnd Q) [some (.ref a), some (.ref p), x2, none, none] H := by
  refine ⟨_, hp.len, brD (fun h0 => ?_) fun h0 => ?_⟩
  · have h0 : cs = [] := by
      have h0 : ((cs.map V.int).length : Int) = 0 := by simpa using h0
      rw [List.length_map] at h0
      exact List.eq_nil_of_length_eq_zero (by omega)
    exact ⟨(show 1 ≤ 1000 by decide), mkR1 trivial fun d hd => qB h0 d _ (Ext.new hd) hd upd_same⟩
  · have h0 : cs ≠ [] := fun z => h0 (by rw [z]; rfl)
    dsimp only [tNext, tSeq, tAsg, ySrtSet]
    refine lc_seq (a := p) (xs := cs.map V.int) (ys := cs.map V.int) (fun R hR => hR) hp ?_ (by intro x; rfl) rfl (fun H' j x y Q' e hx hy k => ?_) fun D H1 nD e1 hD => ?_
    · rw [List.length_map, sizeLine_eq]
      omega
    · rw [List.getElem?_map] at hx
      obtain ⟨c, hs, rfl⟩ := Option.map_eq_some_iff.mp hx
      rw [List.getElem?_map, hs] at hy
      cases hy
      exact k H' (Ext.refl _)
    · refine ⟨cs, SqL.of hD, hc, fun ks D2 pw mem nD2 => ?_⟩
      have e2 : Ext H1 (upd H1 D2 (.lst (ks.map V.int))) := Ext.new nD2
      have hk : (upd H1 D2 (.lst (ks.map V.int))) D2 = some _ := upd_same
      generalize upd H1 D2 (.lst (ks.map V.int)) = G at e2 hk ⊢
      have e12 := e1.trans e2
      have lk : ks.length ≤ 62 := by
        have nd : ks.Nodup := pw.imp fun {a b} h => by omega
        have := nodup_sub_len nd (fun k hk => (mem k).mp hk)
        omega
      obtain ⟨dx, t1, t2, d, h1, h2, h3, h4⟩ := hS.ext e12
      refine ⟨_, dx, _, .ref t1, h1, rfl, rfl, ?_⟩
      refine lc_tup (a := t2) (xs := ss.map V.str) (ys := (ss.map (pickI ks)).map V.str) (fun R hR => ⟨_, dx, _, .ref t2, h1, rfl, rfl, hR⟩) (.of h3) ?_ (by intro x; rfl) (by simp) (fun H' j x y Q' e hx hy k => ?_) fun D3 H' nD3 e hD3 => ?_
      · rw [List.length_map, ← ok.len, sizeLine_eq]
        have := ok.three
        omega
      · rw [List.getElem?_map] at hx
        obtain ⟨s, hs, rfl⟩ := Option.map_eq_some_iff.mp hx
        rw [List.getElem?_map, List.getElem?_map, hs] at hy
        cases hy
        dsimp only [tBM, tC, tCons, tNil]
        refine ⟨tyS, ?_⟩
        refine lc_lst (a := D2) (xs := ks.map V.int) (ys := (ks.map fun k => (⟨#[s.cps.getD k.toNat 0]⟩ : Str)).map V.str) (fun R hR => hR) (.of (e _ _ hk)) ?_ (by intro x; rfl) (by simp) (fun H2 j2 x y Q2 e3 hx hy k2 => ?_) fun D4 H2 nD4 e3 hD4 => ?_
        · rw [List.length_map, sizeLine_eq]
          omega
        · rw [List.getElem?_map] at hx
          obtain ⟨c, hc2, rfl⟩ := Option.map_eq_some_iff.mp hx
          rw [List.getElem?_map, List.getElem?_map, hc2] at hy
          cases hy
          have hin : offS m c = false := by
            have := List.find?_eq_none.mp hn c ((mem c).mp (List.mem_of_getElem? hc2))
            simpa using this
          unfold offS at hin
          simp only [Bool.not_eq_false', Bool.and_eq_true, decide_eq_true_eq] at hin
          have hsl := hm s (List.mem_of_getElem? hs)
          have hsz : s.cps.toList.length = m := by
            have : s.cps.toList.length = s.length := by simp [Str.length]
            omega
          have lt : c.toNat < s.cps.toList.length := by omega
          refine ⟨?_, _, by rw [show c = ((c.toNat : Nat) : Int) by omega]; exact atI_nat (List.getElem?_eq_getElem lt), ?_⟩
          · have := ok.row s (List.mem_of_getElem? hs)
            rw [sizeLine_eq]
            omega
          · have ee : s.cps.getD c.toNat 0 = s.cps.toList[c.toNat] := by
              rw [Array.getD_eq_getD_getElem?, Array.getElem_toList, Array.getElem?_eq_getElem (by simpa using lt)]
              rfl
            have z : Q2 (.str ⟨#[s.cps.getD c.toNat 0]⟩) H2 := k2 H2 (Ext.refl _)
            rw [ee] at z
            exact z
        · refine ⟨ks.map fun (k : Int) => (⟨#[s.cps.getD k.toNat 0]⟩ : Str), .inl (SqL.of hD4), ?_, show Q' (.str (pickI ks s)) H2 from k H2 e3⟩
          have hb := sum_len_le (b := 1) (xs := ks.map fun k => (⟨#[s.cps.getD k.toNat 0]⟩ : Str)) fun x hx => by
            obtain ⟨z, _, rfl⟩ := List.mem_map.mp hx
            exact Nat.le_refl 1
          have he : (("" : Str)).length = 0 := rfl
          rw [he]
          rw [List.length_map] at hb ⊢
          omega
      · refine mk_rows (K := K) (ns := ns) (ss := ss.map (pickI ks)) (.inr (e _ _ h2)) (.inl hD3) fun r H2 e4 nr hr => ?_
        refine mk_shr rk hr (ok.map fun s hs => by
          have := pickI_len (ks := ks) (s := s)
          omega) fun b H3 e5 nb hS3 => ?_
        exact q h0 ks pw mem b H3 (((e12.trans e).trans e4).trans e5) (((e12.trans e).trans e4).back nb) hS3
theorem pure_Sheet_cut (h : sp_Sheet_cut K vs H Q E) : t_Sheet_cut K E (dEnd Q) (start N_Sheet_cut vs) H := by
  obtain ⟨a, p, ns, ss, cs, m, rfl, hS, ok, n1, hm, m4, hp, hc, rk, qC, qB, q⟩ := h
  obtain ⟨dx, t1, t2, d, h1, h2, h3, h4⟩ := id hS
  obtain ⟨s0, hs0⟩ : ∃ s, ss[0]? = some s := ⟨ss[0]'(by have := ok.len; omega), List.getElem?_eq_getElem (by have := ok.len; omega)⟩
  have l0 : s0.length = m := hm s0 (List.mem_of_getElem? hs0)
  have fin : ∀ σ H', ((∃ x2, σ = [some (.ref a), some (.ref p), x2, none, none]) ∧ H' = H ∧ (cs.take (cs.map V.int).length).find? (offS m) = none) → t_cut_tail K E (dEnd Q) σ H' := by
    rintro σ H' ⟨⟨x2, rfl⟩, rfl, hn⟩
    rw [List.length_map, List.take_length] at hn
    exact cut_tail hS ok hm hp hc rk qB hn (q hn)
  have turn : ∀ (i : Nat) (x : V) (σ : L2.St) (D : Ends), ((∃ x2, σ = [some (.ref a), some (.ref p), x2, none, none]) ∧ (cs.take i).find? (offS m) = none) → (cs.map V.int)[i]? = some x → D.rt = Q → (D.nx = fun σ H' => (∃ x2, σ = [some (.ref a), some (.ref p), x2, none, none]) ∧ H' = H ∧ (cs.take (i + 1)).find? (offS m) = none) →
      (yIf (yNot (yTst (yChain zLe zLt (tC (.int 0)) (yVar 2) (tCB (zLen K) (tCons (tOp (zIxL K) (yFld (isC K ["Sheet"]) (yVar 0) "signs") (tC (.int 0))) tNil))))) (yRaise (yMkR (He.ga K "NoColumn") (spI1 (He.ga K "NoColumn") "column" anyOk) (tCons (yVar 2) tNil)) (fun cls d _ H => E cls d H)) tNext) D (σ.set 2 (some x)) H := by
    rintro i x σ D ⟨⟨x2, rfl⟩, hn⟩ hx dr dn
    rw [List.getElem?_map] at hx
    obtain ⟨c, hc2, rfl⟩ := Option.map_eq_some_iff.mp hx
    have bad : offS m c = true → yRaise (yMkR (He.ga K "NoColumn") (spI1 (He.ga K "NoColumn") "column" anyOk) (tCons (yVar 2) tNil)) (fun cls d _ H => E cls d H) D [some (.ref a), some (.ref p), some (.int c), none, none] H := fun hb =>
      ⟨(show 1 ≤ 1000 by decide), mkR1 trivial fun d hd => qC c (find_take hn hc2 hb) d _ (Ext.new hd) hd upd_same⟩
    refine brD (fun h5 => ?_) fun h5 => brT rfl (bad (by unfold offS; simp [h5]))
    refine ⟨_, dx, _, .ref t2, h1, rfl, rfl, _, .str s0, .inr (SqT.of h3), atI_nat (by rw [List.getElem?_map, hs0]; rfl), by rw [sizeLine_eq]; omega, ?_⟩
    rw [l0]
    refine brN (fun h6 => bad (by unfold offS; simp [h6])) fun h6 => ?_
    show D.nx _ H
    rw [dn]
    exact ⟨⟨_, rfl⟩, rfl, find_take1 hn hc2 (by unfold offS; simp [h5, h6])⟩
  rcases hp with hp | hp
  · refine .inl ⟨_, SqL.of hp, fun i σ H' => (∃ x2, σ = [some (.ref a), some (.ref p), x2, none, none]) ∧ H' = H ∧ (cs.take i).find? (offS m) = none, ⟨⟨_, rfl⟩, rfl, rfl⟩, fun i σ H' hi pv => by rw [pv.2.1]; exact SqL.of hp, fun i x σ H1 H2 hi pv y => ?_, fin⟩
    obtain ⟨rfl, hx⟩ := y
    obtain ⟨p1, rfl, p3⟩ := pv
    exact turn i x σ _ ⟨p1, p3⟩ hx rfl rfl
  · refine .inr ⟨_, SqT.of hp, fun i σ H' => (∃ x2, σ = [some (.ref a), some (.ref p), x2, none, none]) ∧ H' = H ∧ (cs.take i).find? (offS m) = none, ⟨⟨_, rfl⟩, rfl, rfl⟩, fun i σ H' hi pv => by rw [pv.2.1]; exact SqT.of hp, fun i x σ H1 H2 hi pv y => ?_, fin⟩
    obtain ⟨rfl, hx⟩ := y
    obtain ⟨p1, rfl, p3⟩ := pv
    exact turn i x σ _ ⟨p1, p3⟩ hx rfl rfl
end
section
variable {P : Program} {w : World} {K : PySem.W.Frag} {mg : Str → Option Value} {base : Heap}
abbrev s_p_check_tracks : Stmt := top 18
theorem sc_p_check_tracks : FnScope N_p_check_tracks ["tracks"] (defScope s_p_check_tracks) := ⟨rfl, rfl, rfl, by decide +kernel, rfl, by decide +kernel, by decide +kernel⟩
theorem ok_p_check_tracks {f : Addr} {fd : FuncData} (B : Blt mg) (c_p_is_name : Cal P w K mg base "is_name" 1 ["word"] (sp_p_is_name K)) (m_BadTracks : Mk P w K mg base "BadTracks" (He.ga K "BadTracks") ["self", "index"] (spI1 (He.ga K "BadTracks") "index" fmtOk))  (k_MOST_TRACKS : ∃ u, mg "MOST_TRACKS" = some u ∧ RelV (.int 3) u) (F : FunD K "check_tracks" "check_tracks" (defArgs s_p_check_tracks) (defBody s_p_check_tracks) (defScope s_p_check_tracks) [] [] f fd) : FnOk P w K mg base (L2.CX P w) 3 f fd ["tracks"] (sp_p_check_tracks K) := by
  refine F.ok sc_p_check_tracks (fun vs H Q E h => len_p_check_tracks h) (fun cdv A outer s H vs Q E hr h => ⟨t_p_check_tracks K E, ?_, pure_p_check_tracks h⟩)
  have po := passes_of (X := cxOf (L2.CX P w) P w K mg base N_p_check_tracks "check_tracks" (defScope s_p_check_tracks) f cdv A outer s H E) rfl
  have tk : Takes (cxOf (L2.CX P w) P w K mg base N_p_check_tracks "check_tracks" (defScope s_p_check_tracks) f cdv A outer s H E) (fun cls d _ H => E cls d H) := takes_of rfl rfl rfl rfl
  exact (pss_cons (ys_for po rfl (j_or (j_enum rfl B.enumerate (yv 0)) (j_enumT rfl B.enumerate (yv 0))) (pg_tup rfl (pgs_cons (pg_name (i := 1) sc_p_check_tracks.nd rfl (by first | exact Or.inl rfl | exact Or.inr rfl)) (pgs_cons (pg_name (i := 2) sc_p_check_tracks.nd rfl (by first | exact Or.inl rfl | exact Or.inr rfl)) pgs_nil))) (pss_one (ys_if (PW.pt (yt_or (yt_cmp op_zEq (yv 1) (pe_globE rfl k_MOST_TRACKS) (by rfl)) (yt_or (yt_not (yt_val (ye_call c_p_is_name (hr.mono (by decide)) rfl (pa_cons (yv 2) pa_nil)))) (pw_or1 (yt_cmp op_zIn (yv 2) (ye_or2 (pe_slice sl_zL (yv 0) po_none (po_some (yv 1))) (pe_slice sl_zT (yv 0) po_none (po_some (yv 1)))) (by rfl)))))) (pss_one (ys_raise rfl tk (pm_mk m_BadTracks (hr.mono (by decide)) rfl (pa_cons (yv 1) pa_nil)))) pss_nil)))
    (pss_one (ys_if (yt_cmp op_zEq (pe_callB cr_len rfl B.len boot_len (pa_cons (yv 0) pa_nil)) pe_int (by rfl)) (pss_one (ys_raise rfl tk (pm_mk m_BadTracks (hr.mono (by decide)) rfl (pa_cons pe_int pa_nil)))) pss_nil)))
abbrev s_Sheet_blank : Stmt := inClass (top 21) 1
theorem sc_Sheet_blank : FnScope N_Sheet_blank ["cls", "tracks", "n"] (defScope s_Sheet_blank) := ⟨rfl, rfl, rfl, by decide +kernel, rfl, by decide +kernel, by decide +kernel⟩
theorem ok_Sheet_blank {f : Addr} {fd : FuncData} (B : Blt mg) (c_p_check_tracks : Cal P w K mg base "check_tracks" 3 ["tracks"] (sp_p_check_tracks K)) (c_Sheet_init : OM P w K mg base "Sheet" 4 ["self", "text"] (sp_Sheet_init K)) (c_Rows_init : OM P w K mg base "Rows" 1 ["self", "tracks", "signs"] (sp_Rows_init K)) (m_BadCount : Mk P w K mg base "BadCount" (He.ga K "BadCount") ["self", "count"] (spI1 (He.ga K "BadCount") "count" anyOk))  (k_MOST_COLUMNS : ∃ u, mg "MOST_COLUMNS" = some u ∧ RelV (.int 1000) u) (F : FunD K "blank" "Sheet.blank" (defArgs s_Sheet_blank) (defBody s_Sheet_blank) (defScope s_Sheet_blank) [] [] f fd) : FnOk P w K mg base (L2.CX P w) 6 f fd ["cls", "tracks", "n"] (sp_Sheet_blank K) := by
  refine F.ok sc_Sheet_blank (fun vs H Q E h => len_Sheet_blank h) (fun cdv A outer s H vs Q E hr h => ⟨t_Sheet_blank K E, ?_, pure_Sheet_blank h⟩)
  have tk : Takes (cxOf (L2.CX P w) P w K mg base N_Sheet_blank "Sheet.blank" (defScope s_Sheet_blank) f cdv A outer s H E) (fun cls d _ H => E cls d H) := takes_of rfl rfl rfl rfl
  exact (pss_cons (ps_expr (ye_callS c_p_check_tracks tk (hr.mono (by decide)) rfl (pa_cons (yv 1) pa_nil)))
    (pss_cons (ys_if (yt_not (yt_chain op_zLe op_zLe pe_int (yv 2) (pe_globE rfl k_MOST_COLUMNS))) (pss_one (ys_raise rfl tk (pm_mk m_BadCount (hr.mono (by decide)) rfl (pa_cons (yv 2) pa_nil)))) pss_nil)
    (pss_one (ps_ret (ye_newV (i := 0) c_Sheet_init tk0 (hr.mono (by decide)) rfl (by first | exact Or.inl rfl | exact Or.inr rfl) (pa_cons (ye_new c_Rows_init tk0 (hr.mono (by decide)) rfl (pa_cons (yv 1) (pa_cons (ye_lc (own := [("track", 3)]) (g := (gName 3)) (tt := tYes) rfl sc_Sheet_blank.nd (j_or (j_lst (yv 1)) (j_tup (yv 1))) (blkOk_by (N := N_Sheet_blank) (sc := defScope s_Sheet_blank) (by decide +kernel)) (fun _ _ _ _ _ => (pg_name (i := 3) sc_Sheet_blank.nd rfl (by first | exact Or.inl rfl | exact Or.inr rfl))) (fun _ _ _ _ _ => pts_nil) (fun _ _ _ _ _ => (pe_op op_zRepS pe_str (yv 2)))) pa_nil))) pa_nil))))))
abbrev s_Sheet_invert : Stmt := inClass (top 21) 6
theorem sc_Sheet_invert : FnScope N_Sheet_invert ["self"] (defScope s_Sheet_invert) := ⟨rfl, rfl, rfl, by decide +kernel, rfl, by decide +kernel, by decide +kernel⟩
theorem ok_Sheet_invert {f : Addr} {fd : FuncData} (B : Blt mg) (c_Sheet_init : OM P w K mg base "Sheet" 4 ["self", "text"] (sp_Sheet_init K)) (c_Rows_init : OM P w K mg base "Rows" 1 ["self", "tracks", "signs"] (sp_Rows_init K))  (CF : ∀ x f, (x, f) ∈ fldN → Cls K (He.ga K x) ∧ NoAttr K (He.ga K x) f) (F : FunD K "__invert__" "Sheet.__invert__" (defArgs s_Sheet_invert) (defBody s_Sheet_invert) (defScope s_Sheet_invert) [] [] f fd) : FnOk P w K mg base (L2.CX P w) 6 f fd ["self"] (sp_Sheet_invert K) := by
  refine F.ok sc_Sheet_invert (fun vs H Q E h => len_Sheet_invert h) (fun cdv A outer s H vs Q E hr h => ⟨t_Sheet_invert K E, ?_, pure_Sheet_invert h⟩)
  have tk : Takes (cxOf (L2.CX P w) P w K mg base N_Sheet_invert "Sheet.__invert__" (defScope s_Sheet_invert) f cdv A outer s H E) (fun cls d _ H => E cls d H) := takes_of rfl rfl rfl rfl
  exact (pss_one (ps_ret (ye_new c_Sheet_init tk (hr.mono (by decide)) rfl (pa_cons (ye_new c_Rows_init tk0 (hr.mono (by decide)) rfl (pa_cons (ye_fld (cf1 (CF "Sheet" "tracks" (by decide))) (yv 0) rfl) (pa_cons (ye_lc (own := [("row", 1)]) (g := (gName 1)) (tt := tYes) rfl sc_Sheet_invert.nd (j_tup (ye_fld (cf1 (CF "Sheet" "signs" (by decide))) (yv 0) rfl)) (blkOk_by (N := N_Sheet_invert) (sc := defScope s_Sheet_invert) (by decide +kernel)) (fun _ _ _ _ _ => (pg_name (i := 1) sc_Sheet_invert.nd rfl (by first | exact Or.inl rfl | exact Or.inr rfl))) (fun _ _ _ _ _ => pts_nil) (fun _ _ _ _ _ => (ye_revS (yv 1) (pe_un un_zNeg pe_int)))) pa_nil))) pa_nil))))
abbrev s_Sheet_add : Stmt := inClass (top 21) 7
theorem sc_Sheet_add : FnScope N_Sheet_add ["self", "other"] (defScope s_Sheet_add) := ⟨rfl, rfl, rfl, by decide +kernel, rfl, by decide +kernel, by decide +kernel⟩
theorem ok_Sheet_add {f : Addr} {fd : FuncData} (B : Blt mg) (c_Sheet_init : OM P w K mg base "Sheet" 4 ["self", "text"] (sp_Sheet_init K)) (c_Rows_init : OM P w K mg base "Rows" 1 ["self", "tracks", "signs"] (sp_Rows_init K)) (m_OtherTracks : Mk P w K mg base "OtherTracks" (He.ga K "OtherTracks") ["self"] (spI0 (He.ga K "OtherTracks")))  (CF : ∀ x f, (x, f) ∈ fldN → Cls K (He.ga K x) ∧ NoAttr K (He.ga K x) f) (F : FunD K "__add__" "Sheet.__add__" (defArgs s_Sheet_add) (defBody s_Sheet_add) (defScope s_Sheet_add) [] [] f fd) : FnOk P w K mg base (L2.CX P w) 6 f fd ["self", "other"] (sp_Sheet_add K) := by
  refine F.ok sc_Sheet_add (fun vs H Q E h => len_Sheet_add h) (fun cdv A outer s H vs Q E hr h => ⟨t_Sheet_add K E, ?_, pure_Sheet_add h⟩)
  have tk : Takes (cxOf (L2.CX P w) P w K mg base N_Sheet_add "Sheet.__add__" (defScope s_Sheet_add) f cdv A outer s H E) (fun cls d _ H => E cls d H) := takes_of rfl rfl rfl rfl
  exact (pss_cons (ys_if (yt_cmp (op_zNeD hr.units) (ye_fld (cf1 (CF "Sheet" "tracks" (by decide))) (yv 0) rfl) (ye_fld (cf1 (CF "Sheet" "tracks" (by decide))) (yv 1) rfl) (by rfl)) (pss_one (ys_raise rfl tk (pm_mk0 m_OtherTracks (hr.mono (by decide)) rfl))) pss_nil)
    (pss_one (ps_ret (ye_new c_Sheet_init tk (hr.mono (by decide)) rfl (pa_cons (ye_new c_Rows_init tk0 (hr.mono (by decide)) rfl (pa_cons (ye_fld (cf1 (CF "Sheet" "tracks" (by decide))) (yv 0) rfl) (pa_cons (ye_lc (own := [("one", 2), ("two", 3)]) (g := (gTup K 2 (gCons (gName 2) (gCons (gName 3) gNil)))) (tt := tYes) rfl sc_Sheet_add.nd (j_zipT rfl B.zip (ye_fld (cf1 (CF "Sheet" "signs" (by decide))) (yv 0) rfl) (ye_fld (cf1 (CF "Sheet" "signs" (by decide))) (yv 1) rfl)) (blkOk_by (N := N_Sheet_add) (sc := defScope s_Sheet_add) (by decide +kernel)) (fun _ _ _ _ _ => (pg_tup rfl (pgs_cons (pg_name (i := 2) sc_Sheet_add.nd rfl (by first | exact Or.inl rfl | exact Or.inr rfl)) (pgs_cons (pg_name (i := 3) sc_Sheet_add.nd rfl (by first | exact Or.inl rfl | exact Or.inr rfl)) pgs_nil)))) (fun _ _ _ _ _ => pts_nil) (fun _ _ _ _ _ => (pe_op op_zAdd (yv 2) (yv 3)))) pa_nil))) pa_nil)))))
abbrev s_Sheet_cut : Stmt := inClass (top 21) 9
theorem sc_Sheet_cut : FnScope N_Sheet_cut ["self", "columns"] (defScope s_Sheet_cut) := ⟨rfl, rfl, rfl, by decide +kernel, rfl, by decide +kernel, by decide +kernel⟩
theorem ok_Sheet_cut {f : Addr} {fd : FuncData} (B : Blt mg) (c_Sheet_init : OM P w K mg base "Sheet" 4 ["self", "text"] (sp_Sheet_init K)) (c_Rows_init : OM P w K mg base "Rows" 1 ["self", "tracks", "signs"] (sp_Rows_init K)) (m_NoColumn : Mk P w K mg base "NoColumn" (He.ga K "NoColumn") ["self", "column"] (spI1 (He.ga K "NoColumn") "column" anyOk)) (m_BadCount : Mk P w K mg base "BadCount" (He.ga K "BadCount") ["self", "count"] (spI1 (He.ga K "BadCount") "count" anyOk))  (CF : ∀ x f, (x, f) ∈ fldN → Cls K (He.ga K x) ∧ NoAttr K (He.ga K x) f) (F : FunD K "cut" "Sheet.cut" (defArgs s_Sheet_cut) (defBody s_Sheet_cut) (defScope s_Sheet_cut) [] [] f fd) : FnOk P w K mg base (L2.CX P w) 6 f fd ["self", "columns"] (sp_Sheet_cut K) := by
  refine F.ok sc_Sheet_cut (fun vs H Q E h => len_Sheet_cut h) (fun cdv A outer s H vs Q E hr h => ⟨t_Sheet_cut K E, ?_, pure_Sheet_cut h⟩)
  have po := passes_of (X := cxOf (L2.CX P w) P w K mg base N_Sheet_cut "Sheet.cut" (defScope s_Sheet_cut) f cdv A outer s H E) rfl
  have tk : Takes (cxOf (L2.CX P w) P w K mg base N_Sheet_cut "Sheet.cut" (defScope s_Sheet_cut) f cdv A outer s H E) (fun cls d _ H => E cls d H) := takes_of rfl rfl rfl rfl
  exact (pss_cons (ys_for po rfl (j_or (j_lst (yv 1)) (j_tup (yv 1))) (pg_name (i := 2) sc_Sheet_cut.nd rfl (by first | exact Or.inl rfl | exact Or.inr rfl)) (pss_one (ys_if (yt_not (yt_chain op_zLe op_zLt pe_int (yv 2) (pe_callB cr_len rfl B.len boot_len (pa_cons (pe_ix ix_zIxL (ye_fld (cf1 (CF "Sheet" "signs" (by decide))) (yv 0) rfl) pe_int (fun _ _ => rfl)) pa_nil)))) (pss_one (ys_raise rfl tk (pm_mk m_NoColumn (hr.mono (by decide)) rfl (pa_cons (yv 2) pa_nil)))) pss_nil)))
    (pss_cons (ys_if (yt_cmp op_zEq (pe_callB cr_len rfl B.len boot_len (pa_cons (yv 1) pa_nil)) pe_int (by rfl)) (pss_one (ys_raise rfl tk (pm_mk m_BadCount (hr.mono (by decide)) rfl (pa_cons pe_int pa_nil)))) pss_nil)
    (pss_cons (ps_set (i := 3) sc_Sheet_cut.nd rfl (by first | exact Or.inl rfl | exact Or.inr rfl) (ye_srtSet rfl rfl B.sorted rfl B.set (ye_lc (own := [("column", 2)]) (g := (gName 2)) (tt := tYes) rfl sc_Sheet_cut.nd (j_or (j_lst (yv 1)) (j_tup (yv 1))) (blkOk_by (N := N_Sheet_cut) (sc := defScope s_Sheet_cut) (by decide +kernel)) (fun _ _ _ _ _ => (pg_name (i := 2) sc_Sheet_cut.nd rfl (by first | exact Or.inl rfl | exact Or.inr rfl))) (fun _ _ _ _ _ => pts_nil) (fun _ _ _ _ _ => (pe_callTy cr_int rfl B.int boot_int (pa_cons (yv 2) pa_nil))))))
    (pss_one (ps_ret (ye_new c_Sheet_init tk (hr.mono (by decide)) rfl (pa_cons (ye_new c_Rows_init tk0 (hr.mono (by decide)) rfl (pa_cons (ye_fld (cf1 (CF "Sheet" "tracks" (by decide))) (yv 0) rfl) (pa_cons (ye_lc (own := [("row", 4)]) (g := (gName 4)) (tt := tYes) rfl sc_Sheet_cut.nd (j_tup (ye_fld (cf1 (CF "Sheet" "signs" (by decide))) (yv 0) rfl)) (blkOk_by (N := N_Sheet_cut) (sc := defScope s_Sheet_cut) (by decide +kernel)) (fun _ _ _ _ _ => (pg_name (i := 4) sc_Sheet_cut.nd rfl (by first | exact Or.inl rfl | exact Or.inr rfl))) (fun _ _ _ _ _ => pts_nil) (fun _ _ _ _ _ => (pe_bm PySem.F.plainAttrs_str PySem.F.slot_str_join PySem.F.type_str_join mt_zJoin pe_str (pa_cons (ye_lc (own := [("column", 2)]) (g := (gName 2)) (tt := tYes) rfl sc_Sheet_cut.nd (j_lst (yv 3)) (blkOk_in (N := N_Sheet_cut) (sc := defScope s_Sheet_cut) rfl rfl (by decide +kernel)) (fun _ _ _ _ _ => (pg_name (i := 2) sc_Sheet_cut.nd rfl (by first | exact Or.inl rfl | exact Or.inr rfl))) (fun _ _ _ _ _ => pts_nil) (fun _ _ _ _ _ => (pe_ix ix_zIxL (yv 4) (yv 2) (fun _ _ => rfl)))) pa_nil)))) pa_nil))) pa_nil)))))))
end
end Eb

namespace Eb
open PySem PySem.Spec PyProof.Rows L2
def TB (K : PySem.W.Frag) : List (Addr × Str) := [((He.cT K ("law", none)).2, (("law" : Str) ++ (".<locals>." : Str)) ++ ("<lambda>" : Str)), ((He.cT K ("_law_blank_right", none)).2, (("_law_blank_right" : Str) ++ (".<locals>." : Str)) ++ ("<lambda>" : Str))]
def ERR : List (Str × Str) := [("NoColumn", "column"), ("BadCount", "count"), ("BadTracks", "index"), ("OtherTracks", "tracks")]
/-- refused so, told as t -/
def Ref1 (K : PySem.W.Frag) (Q : VK) (x f t : Str) (cls : Value) (d : Option Addr) (H' : Hp) : Prop := cls = .ref (He.ga K x) ∧ ∃ dd v, d = some dd ∧ H' dd = some (.xd [(f, v)]) ∧ ∀ p, H' p = none → Q (.ref p) (upd H' p (.tup [.str t, v, .bl true]))
/-- how a question is refused -/
def TT_refused (K : PySem.W.Frag) : LTT := fun tl H Q => XFs K ERR ∧ tl (fun cls d H' => Ref1 K Q "NoColumn" "column" "column" cls d H' ∨ Ref1 K Q "BadCount" "count" "count" cls d H' ∨ Ref1 K Q "BadTracks" "index" "tracks" cls d H' ∨
    (cls = .ref (He.ga K "OtherTracks") ∧ d = none ∧ ∀ p, H' p = none → Q (.ref p) (upd H' p (.tup [.str "other", .non, .bl true])))) H fun _ H' => Q .non H'
section
variable {K : PySem.W.Frag} {vs : List V} {H : Hp} {Q : VK} {E : XK}
def N_refused : List Str := ["_law_call", "e"]
def t_refused (K : PySem.W.Frag) (E : XK) (f c' : Addr) (qL : Str) (tl : XK → Hp → VK → Prop) : TS :=
  (tSeq (yTry K (fun W => (tDrop (yAct f c' qL tl 2 W))) W0 ((.ref (He.ga K "NoColumn"), asTs 1 (fun a cls d => (tRet (tTup (tCons (tC (.str "column")) (tCons (yXf K a cls d "column" (yVar 1)) (tCons (tCB (zIsS K a cls d) (tCons (yVar 1) (tCons (tC (.ref (He.ga K "EdgeError"))) tNil))) tNil))))))) :: ((.ref (He.ga K "BadCount"), asTs 1 (fun a cls d => (tRet (tTup (tCons (tC (.str "count")) (tCons (yXf K a cls d "count" (yVar 1)) (tCons (tCB (zIsS K a cls d) (tCons (yVar 1) (tCons (tC (.ref (He.ga K "EdgeError"))) tNil))) tNil))))))) :: ((.ref (He.ga K "BadTracks"), asTs 1 (fun a cls d => (tRet (tTup (tCons (tC (.str "tracks")) (tCons (yXf K a cls d "index" (yVar 1)) (tCons (tCB (zIsS K a cls d) (tCons (yVar 1) (tCons (tC (.ref (He.ga K "EdgeError"))) tNil))) tNil))))))) :: ((.ref (He.ga K "OtherTracks"), asTs 1 (fun a cls d => (tRet (tTup (tCons (tC (.str "other")) (tCons (tC .non) (tCons (tCB (zIsS K a cls d) (tCons (yVar 1) (tCons (tC (.ref (He.ga K "EdgeError"))) tNil))) tNil))))))) :: [])))))
    (tRet (tC .non)))
abbrev s_refused : Stmt := top 36
theorem sc_refused : FnScope N_refused ["_law_call"] (defScope s_refused) := ⟨rfl, rfl, rfl, by decide +kernel, rfl, by decide +kernel, by decide +kernel⟩
theorem two_slots {σ : L2.St} (h : σ.length = 2) : ∃ x0 x1, σ = [x0, x1] := match σ, h with
  | [x0, x1], _ => ⟨x0, x1, rfl⟩
theorem pure_refused {tl : XK → Hp → VK → Prop} {f c' : Addr} {qL : Str} (h : TT_refused K tl H Q) (hc : H c' = some (LamX.CodeO c' qL)) : t_refused K E0 f c' qL tl { nx := fun _ H' => Q .non H', rt := Q } (L2.start N_refused [.ref f]) H := by
  obtain ⟨XF, h⟩ := h
  obtain ⟨c1, c2, c3, c4, c5⟩ := XF ("NoColumn", "column") (by decide)
  obtain ⟨b1, b2, b3, b4, b5⟩ := XF ("BadCount", "count") (by decide)
  obtain ⟨t1, t2, t3, t4, t5⟩ := XF ("BadTracks", "index") (by decide)
  obtain ⟨o1, o2, o3, o4, o5⟩ := XF ("OtherTracks", "tracks") (by decide)
  refine ⟨_, ?_, rfl, hc, h⟩
  rintro cls d σ' H' (⟨rfl, dd, v, rfl, hd, q⟩ | ⟨rfl, dd, v, rfl, hd, q⟩ | ⟨rfl, dd, v, rfl, hd, q⟩ | ⟨rfl, rfl, q⟩) hl
  · obtain ⟨x0, x1, rfl⟩ := two_slots hl
    refine ⟨true, c5 ("NoColumn", "column") (by decide), fun _ a na => ?_, fun z => by cases z⟩
    refine ⟨rfl, _, dd, _, v, rfl, c1, rfl, hd, rfl, _, true, rfl, c2, .inr ⟨dd, _, rfl, hd⟩, .inl ⟨_, rfl, c3⟩, (show 3 ≤ sizeLine by decide), q⟩
  · obtain ⟨x0, x1, rfl⟩ := two_slots hl
    refine ⟨false, b5 ("NoColumn", "column") (by decide), (fun z => by cases z), fun _ => ⟨true, b5 ("BadCount", "count") (by decide), fun _ a na => ?_, fun z => by cases z⟩⟩
    refine ⟨rfl, _, dd, _, v, rfl, b1, rfl, hd, rfl, _, true, rfl, b2, .inr ⟨dd, _, rfl, hd⟩, .inl ⟨_, rfl, b3⟩, (show 3 ≤ sizeLine by decide), q⟩
  · obtain ⟨x0, x1, rfl⟩ := two_slots hl
    refine ⟨false, t5 ("NoColumn", "column") (by decide), (fun z => by cases z), fun _ => ⟨false, t5 ("BadCount", "count") (by decide), (fun z => by cases z), fun _ => ⟨true, t5 ("BadTracks", "index") (by decide), fun _ a na => ?_, fun z => by cases z⟩⟩⟩
    refine ⟨rfl, _, dd, _, v, rfl, t1, rfl, hd, rfl, _, true, rfl, t2, .inr ⟨dd, _, rfl, hd⟩, .inl ⟨_, rfl, t3⟩, (show 3 ≤ sizeLine by decide), q⟩
  · obtain ⟨x0, x1, rfl⟩ := two_slots hl
    refine ⟨false, o5 ("NoColumn", "column") (by decide), (fun z => by cases z), fun _ => ⟨false, o5 ("BadCount", "count") (by decide), (fun z => by cases z), fun _ => ⟨false, o5 ("BadTracks", "index") (by decide), (fun z => by cases z), fun _ => ⟨true, o5 ("OtherTracks", "tracks") (by decide), fun _ a na => ?_, fun z => by cases z⟩⟩⟩⟩
    exact ⟨_, true, rfl, o2, .inl rfl, .inl ⟨_, rfl, o3⟩, (show 3 ≤ sizeLine by decide), q⟩
end
theorem giv_refused {X : Cx} {fd : FuncData} (B : Blt X.mg) (GC : ∀ x ∈ clsN, X.mg x = some (.ref (He.ga X.K x))) (F : FunD X.K "_law_refused" "_law_refused" (defArgs s_refused) (defBody s_refused) (defScope s_refused) [] [] (He.ga X.K "_law_refused") fd) (g : X.mg "_law_refused" = some (.ref (He.ga X.K "_law_refused"))) : Giv X "_law_refused" "_law_call" (TT_refused X.K) := by
  refine giv_of F g sc_refused rfl (by first | exact Or.inl rfl | exact Or.inr (Or.inl rfl)) (fun _ _ _ _ _ _ us hl => match us, hl with | [_], _ => rfl) (fun cdv qL f c' s H Q tl act hc h => ⟨t_refused X.K E0 f c' qL tl, ?_, pure_refused h hc⟩)
  exact (pss_cons (ys_try rfl rfl sc_refused.nd tk0 (fun W pn xe tk po => (pss_one (ps_expr (ye_act (n := 2) fun EA hW => act _ pn xe EA _ _ (takes_len tk) hW)))) (HdsN.named (i := 1) rfl rfl ⟨rfl, by decide, .inl (GC "NoColumn" (by decide))⟩ (fun a oe cls d pn hz hf => (pss_one (ps_ret (pe_tup (pa_cons pe_str (pa_cons (ye_xf hz hf (yv 1)) (pa_cons (pe_callB (cr_isS hz hf) rfl B.isinstance (by decide +kernel) (pa_cons (yv 1) (pa_cons (pe_glob rfl (GC "EdgeError" (by decide)) rfl) pa_nil))) pa_nil))))))) (HdsN.named (i := 1) rfl rfl ⟨rfl, by decide, .inl (GC "BadCount" (by decide))⟩ (fun a oe cls d pn hz hf => (pss_one (ps_ret (pe_tup (pa_cons pe_str (pa_cons (ye_xf hz hf (yv 1)) (pa_cons (pe_callB (cr_isS hz hf) rfl B.isinstance (by decide +kernel) (pa_cons (yv 1) (pa_cons (pe_glob rfl (GC "EdgeError" (by decide)) rfl) pa_nil))) pa_nil))))))) (HdsN.named (i := 1) rfl rfl ⟨rfl, by decide, .inl (GC "BadTracks" (by decide))⟩ (fun a oe cls d pn hz hf => (pss_one (ps_ret (pe_tup (pa_cons pe_str (pa_cons (ye_xf hz hf (yv 1)) (pa_cons (pe_callB (cr_isS hz hf) rfl B.isinstance (by decide +kernel) (pa_cons (yv 1) (pa_cons (pe_glob rfl (GC "EdgeError" (by decide)) rfl) pa_nil))) pa_nil))))))) (HdsN.named (i := 1) rfl rfl ⟨rfl, by decide, .inl (GC "OtherTracks" (by decide))⟩ (fun a oe cls d pn hz hf => (pss_one (ps_ret (pe_tup (pa_cons pe_str (pa_cons pe_non (pa_cons (pe_callB (cr_isS hz hf) rfl B.isinstance (by decide +kernel) (pa_cons (yv 1) (pa_cons (pe_glob rfl (GC "EdgeError" (by decide)) rfl) pa_nil))) pa_nil))))))) HdsN.nil)))))
    (pss_one (ps_ret pe_non)))
end Eb

namespace Eb
open PySem PySem.Spec PyProof.Rows L2
section
variable {K : PySem.W.Frag} {vs : List V} {H : Hp} {Q : VK} {E : XK}
/-! ### the law's cut -/
def colsAt (cols : List (List Int)) (ks : List Int) : List (List Int) := ks.map fun k => cols.getD k.toNat []
def sp_cut_plain (_ : PySem.W.Frag) : Sp := fun vs H Q _ => ∃ (d p : Addr) (ys : List Str) (cols : List (List Int)) (cs : List Int), vs = [.ref d, .ref p] ∧ SheetC H d ys cols ∧ cols.length ≤ 1000 ∧ H p = some (.lst (cs.map V.int)) ∧ cs.length ≤ 62 ∧ (∀ c ∈ cs, 0 ≤ c ∧ c < (cols.length : Int)) ∧
  ∀ ks : List Int, ks.Pairwise (· < ·) → (∀ k, k ∈ ks ↔ k ∈ cs) → ∀ d' H', Ext H H' → H d' = none → SheetC H' d' ys (colsAt cols ks) → Q (.ref d') H'
theorem len_cut_plain (h : sp_cut_plain K vs H Q E) : vs.length = 2 := by
  obtain ⟨_, _, _, _, _, rfl, _⟩ := h
  rfl
def N_cut_plain : List Str := ["_law_sheet", "_law_columns", "_law_k"]
def t_cut_plain (K : PySem.W.Frag) (E : XK) : TS :=
  (tRet (tDisp (((tC (.str "tracks")), (yDGet (yVar 0) (tC (.str "tracks")))) :: (((tC (.str "cols")), (yLc (jLst K (ySrtSet K (yVar 1))) (gName 2) tYes (tCB (zList K) (tCons (tOp (zIxL K) (yDGet (yVar 0) (tC (.str "cols"))) (yVar 2)) tNil)) [2])) :: []))))
theorem pure_cut_plain (h : sp_cut_plain K vs H Q E) : t_cut_plain K E (dEnd Q) (start N_cut_plain vs) H := by
  obtain ⟨d, p, ys, cols, cs, rfl, ⟨t, c, cas, h1, h2, h3, h4, h5⟩, hm, hp, hc, hin, q⟩ := h
  refine fun p1 n1 => ⟨_, .ref t, .inl ((Ext.new n1) _ _ h1), sh_tracks, _, SqL.of ((Ext.new n1) _ _ hp), hc, fun ks D pw mem nD => ?_⟩
  have e0 : Ext H (upd H p1 (.dK [])) := Ext.new n1
  have g1 : (upd H p1 (.dK [])) p1 = some (.dK []) := upd_same
  generalize upd H p1 (.dK []) = H1 at e0 g1 nD ⊢
  have e1 : Ext H1 (upd H1 D (.lst (ks.map V.int))) := Ext.new nD
  have gD : (upd H1 D (.lst (ks.map V.int))) D = some (.lst (ks.map V.int)) := upd_same
  generalize upd H1 D (.lst (ks.map V.int)) = H2 at e1 gD ⊢
  have e2 := e0.trans e1
  have lk : ks.length ≤ 62 := by
    have nd : ks.Nodup := pw.imp fun {a b} h => by omega
    have := nodup_sub_len nd (fun k hk => (mem k).mp hk)
    omega
  refine ⟨_, SqL.of gD, fun D2 nD2 => ⟨fun i acc G => ∃ cas' : List Addr, acc = cas'.map V.ref ∧ cas'.length = i ∧ Ext H2 G ∧ G D2 = some (.lst acc) ∧ ∀ (j : Nat) (a : Addr), cas'[j]? = some a → ∃ (k : Int) (bs : List Int), ks[j]? = some k ∧ cols[k.toNat]? = some bs ∧ G a = some (.lst (bs.map V.int)) ∧ a ≠ D2,
    ⟨[], rfl, rfl, Ext.new nD2, upd_same, fun j a h => by simp at h⟩, fun i acc G hi ⟨cas', b1, b2, b3, b4, b5⟩ => ⟨SqL.of (b3 _ _ gD), b4, ?_⟩, ?_, ?_⟩⟩
  · rw [List.length_map] at hi
    rw [b1, List.length_map, b2, sizeLine_eq]
    omega
  · rintro i x acc G0 G hi ⟨cas', rfl, b2, b3, b4, b5⟩ ⟨eG0, hx⟩
    have eG0 : G = G0 := eG0
    subst eG0
    rw [List.length_map] at hi
    rw [List.getElem?_map] at hx
    obtain ⟨k, hk, rfl⟩ := Option.map_eq_some_iff.mp hx
    obtain ⟨k0, k1⟩ := hin k ((mem k).mp (List.mem_of_getElem? hk))
    have kl : k.toNat < cas.length := by omega
    obtain ⟨bs, c1, c2⟩ := h5 k.toNat _ (List.getElem?_eq_getElem kl)
    refine ⟨rfl, brT rfl ⟨_, .ref c, .inl (b3 _ _ (e2 _ _ h1)), sh_cols, _, .ref cas[k.toNat], .inl (SqL.of (b3 _ _ (e2 _ _ h3))), ?_, bs.map V.int, .inl (SqL.of (b3 _ _ (e2 _ _ c2))), fun l nl => ?_⟩⟩
    · have z : atI (cas.map V.ref) ((k.toNat : Nat) : Int) = some (.ref cas[k.toNat]) := atI_nat (by rw [List.getElem?_map, List.getElem?_eq_getElem kl]; rfl)
      rw [show ((k.toNat : Nat) : Int) = k by omega] at z
      exact z
    · have nlD : l ≠ D2 := fun z => by rw [z, b4] at nl; cases nl
      have eG : Ext G (upd G l (.lst (bs.map V.int))) := Ext.new nl
      refine ⟨eG _ _ b4, cas' ++ [l], by rw [List.map_append]; rfl, by rw [List.length_append, b2]; rfl, (b3.trans eG).mut nD2, upd_same, fun j a ha => ?_⟩
      by_cases hj : j < cas'.length
      · rw [List.getElem?_append_left hj] at ha
        obtain ⟨k', bs', z1, z2, z3, z4⟩ := b5 j a ha
        exact ⟨k', bs', z1, z2, by rw [upd_ne z4]; exact eG _ _ z3, z4⟩
      · rw [List.getElem?_append_right (by omega)] at ha
        have hj0 : j - cas'.length = 0 := by
          have := (List.getElem?_eq_some_iff.mp ha).1
          simp at this
          omega
        rw [hj0] at ha
        have ea : l = a := by simpa using ha
        subst ea
        exact ⟨k, bs, by rw [show j = i by omega]; exact hk, c1, by rw [upd_ne nlD, upd_same], nlD⟩
  · rintro acc G ⟨cas', rfl, b2, b3, b4, b5⟩
    rw [List.length_map] at b2
    refine ⟨b3 _ _ (e1 _ _ g1), [(Sum.inr "tracks", .ref t), (Sum.inr "cols", .ref D2)], rfl, (show 2 ≤ 15 by decide), ?_⟩
    have nD2p : D2 ≠ p1 := fun z => by rw [z, e1 _ _ g1] at nD2; cases nD2
    have np1 : H p1 = none := n1
    rw [show mergeK [] [(Sum.inr "tracks", V.ref t), (Sum.inr "cols", V.ref D2)] = shKvs t D2 from merge_sh]
    have st : ∀ {b : Addr} {o : HO}, H b = some o → (upd G p1 (.dK (shKvs t D2))) b = some o := fun {b o} hb => by
      rw [upd_ne (ne_of_none hb np1)]
      exact b3 _ _ (e2 _ _ hb)
    refine q ks pw mem p1 _ (fun b o hb => st hb) np1 ⟨t, D2, cas', upd_same, st h2, by rw [upd_ne nD2p]; exact b4, by rw [b2]; simp [colsAt], fun j a ha => ?_⟩
    obtain ⟨k, bs, z1, z2, z3, z4⟩ := b5 j a ha
    have nap : a ≠ p1 := fun z => by rw [z, b3 _ _ (e1 _ _ g1)] at z3; cases z3
    exact ⟨bs, by simp [colsAt, z1, List.getD_eq_getElem?_getD, z2], by rw [upd_ne nap]; exact z3⟩
theorem rowTxt_at {cols : List (List Int)} {k j c : Nat} (h : (rowTxt cols k).cps.toList[j]? = some c) : ∃ bs, cols[j]? = some bs ∧ c = cellC (bs.getD k 0) := by
  have h : (cols.map fun bs => cellC (bs.getD k 0))[j]? = some c := h
  rw [List.getElem?_map] at h
  obtain ⟨bs, h1, h2⟩ := Option.map_eq_some_iff.mp h
  exact ⟨bs, h1, h2.symm⟩
theorem atI_end {α : Type} {xs : List α} {v : α} (h : xs[xs.length - 1]? = some v) : atI xs (-1) = some v := by
  have hl := (List.getElem?_eq_some_iff.mp h).1
  have hne : xs ≠ [] := fun z => by rw [z] at hl; simp at hl
  have e : xs = xs.dropLast ++ [v] := by
    have q := List.dropLast_concat_getLast hne
    rw [List.getLast_eq_getElem] at q
    rw [List.getElem?_eq_getElem hl] at h
    rw [Option.some.inj h] at q
    exact q.symm
  rw [e]
  exact atI_last _ _
/-! ### whether a sheet shows a plain one -/
theorem len_rowsOf {cols : List (List Int)} {n : Nat} : (rowsOf cols n).length = n := by simp [rowsOf]
theorem rowsOf_at {cols : List (List Int)} {n i : Nat} (h : i < n) : (rowsOf cols n)[i]? = some (rowTxt cols i) := by simp [rowsOf, h]
structure PF (ys : List Str) (cols : List (List Int)) : Prop where
  nd : ys.Nodup
  one : 1 ≤ ys.length
  three : ys.length ≤ 3
  short : ∀ y ∈ ys, y.length ≤ 12
  lay : ∀ y ∈ ys, okV (.str y) = true
  ok : ColOk ys.length cols
  ne : 1 ≤ cols.length
  most : cols.length ≤ 400000
def sp_shows (K : PySem.W.Frag) : Sp := fun vs H Q _ => ∃ (a d : Addr) (ys : List Str) (cols : List (List Int)), vs = [.ref a, .ref d] ∧ SheetAt K H a ys (rowsOf cols ys.length) ∧ SheetC H d ys cols ∧ PF ys cols ∧ ∀ H', Ext H H' → Q (.bl true) H'
theorem len_shows (h : sp_shows K vs H Q E) : vs.length = 2 := by
  obtain ⟨_, _, _, _, rfl, _⟩ := h
  rfl
def N_shows : List Str := ["_law_sheet", "_law_plain", "_law_first", "_law_last", "_law_number", "_law_track"]
def t_shows (K : PySem.W.Frag) (E : XK) : TS :=
  (tSeq (yPar 2 3 (tCons (tOp (zIxL K) (yDGet (yVar 1) (tC (.str "cols"))) (tC (.int 0))) (tCons (tOp (zIxL K) (yDGet (yVar 1) (tC (.str "cols"))) (tUn zNeg (tC (.int 1)))) tNil)))
    (tSeq (yIf (yOr (yTst (tOp (zNeD K) (yFld (isC K ["Sheet"]) (yVar 0) "tracks") (tCB (zTuple K) (tCons (yDGet (yVar 1) (tC (.str "tracks"))) tNil)))) (yTst (tOp zNe (tCB (zLenO (He.ga K "Sheet") (sp_Sheet_len K)) (tCons (yVar 0) tNil)) (tCB (zLen K) (tCons (yDGet (yVar 1) (tC (.str "cols"))) tNil))))) (tRet (tC (.bl false))) tNext)
    (tSeq (yFor (jEnum K (yDGet (yVar 1) (tC (.str "tracks")))) (gTup K 2 (gCons (gName 4) (gCons (gName 5) gNil))) (tSeq (yIf (yOr (yTst (tOp zNe (yMeth (He.ga K "Sheet") "cells" (sp_Sheet_cells K) (fun cls d _ H => E cls d H) (yVar 0) (tCons (yVar 5) tNil)) (yCall (sp_cells_text K) E0 (tCons (yVar 1) (tCons (yVar 4) tNil))))) (yTst (tOp zNe (yGetO (He.ga K "Sheet") (sp_Sheet_getitem K) (fun cls d _ H => E cls d H) (yVar 0) (tTup (tCons (yVar 5) (tCons (tC (.int 0)) tNil)))) (tOp zEq (tOp (zIxL K) (yVar 2) (yVar 4)) (tC (.int 1)))))) (tRet (tC (.bl false))) tNext)
    (yIf (yTst (tOp zNe (yGetO (He.ga K "Sheet") (sp_Sheet_getitem K) (fun cls d _ H => E cls d H) (yVar 0) (tTup (tCons (yVar 5) (tCons (tOp zSub (tCB (zLen K) (tCons (yDGet (yVar 1) (tC (.str "cols"))) tNil)) (tC (.int 1))) tNil)))) (tOp zEq (tOp (zIxL K) (yVar 3) (yVar 4)) (tC (.int 1))))) (tRet (tC (.bl false))) tNext)))
    (tRet (tOp zEq (yFld (isC K ["Sheet"]) (yVar 0) "text") (yCall (sp_sheet_text K) E0 (tCons (yVar 1) tNil)))))))
theorem pure_shows (h : sp_shows K vs H Q E) : t_shows K E (dEnd Q) (start N_shows vs) H := by
  obtain ⟨a, d, ys, cols, rfl, hA, hC, pf, q⟩ := h
  obtain ⟨dx, t1, t2, dd, a1, a2, a3, a4⟩ := id hA
  obtain ⟨t, c, cas, h1, h2, h3, h4, h5⟩ := id hC
  have l1 := pf.one
  have l3 := pf.three
  have m1 := pf.ne
  have m4 := pf.most
  have c0 : cas[0]? = some (cas[0]'(by omega)) := List.getElem?_eq_getElem _
  have cl : cas[cas.length - 1]? = some (cas[cas.length - 1]'(by omega)) := List.getElem?_eq_getElem _
  obtain ⟨b0, q0, r0⟩ := h5 _ _ c0
  obtain ⟨bl, ql, rl⟩ := h5 _ _ cl
  have la : (ys.map V.str).all okV = true := List.all_eq_true.mpr fun z hz => by
    obtain ⟨n, hn, rfl⟩ := List.mem_map.mp hz
    exact pf.lay n hn
  refine ⟨_, .ref c, .inl h1, sh_cols, _, .ref cas[0], .inl (SqL.of h3), atI_nat (by rw [List.getElem?_map, c0]; rfl), _, .ref c, .inl h1, sh_cols, _, .ref (cas[cas.length - 1]'(by omega)), .inl (SqL.of h3), atI_end (by rw [List.length_map, List.getElem?_map, cl]; rfl), ?_⟩
  refine ⟨_, dx, _, .ref t1, a1, rfl, rfl, _, .ref t, .inl h1, sh_tracks, _, .inl ⟨SqL.of h2, fun p np => ?_⟩⟩
  have e1 : Ext H (upd H p (.tup (ys.map V.str))) := Ext.new np
  refine ⟨_, _, .tup (SqT.of (e1 _ _ a2)) (dpAll_flat flat_strs'), .tup (SqT.of upd_same) (dpAll_flat flat_strs'), shaped_flatT la, shaped_flatT la, ?_⟩
  rw [eqv_strsT]
  refine brF (by simp) ?_
  generalize upd H p (.tup (ys.map V.str)) = H1 at e1 ⊢
  have s0 : (rowsOf cols ys.length)[0]? = some (rowTxt cols 0) := rowsOf_at (by omega)
  refine ⟨dx, _, e1 _ _ a1, a, ys, rowsOf cols ys.length, rowTxt cols 0, rfl, hA.ext e1, s0, by rw [rowTxt_len]; omega, ⟨by omega, by rw [rowTxt_len]; omega⟩, _, .ref c, .inl (e1 _ _ h1), sh_cols, _, .inl (SqL.of (e1 _ _ h3)), ?_⟩
  refine brF (by simp [rowTxt_len, h4]) ?_
  refine ⟨_, .ref t, .inl (e1 _ _ h1), sh_tracks, _, SqL.of (e1 _ _ h2), fun i σ G => Ext H G ∧ ∃ x4 x5, σ = [some (.ref a), some (.ref d), some (.ref cas[0]), some (.ref (cas[cas.length - 1]'(by omega))), x4, x5], ⟨e1, _, _, rfl⟩, fun i σ G _ pv => SqL.of (pv.1 _ _ h2), ?_, ?_⟩
  · rintro i x σ G0 G hi ⟨e2, x4, x5, rfl⟩ ⟨T, u, v, rfl, nT, rfl, eu, ev⟩
    cases eu
    have ev : (ys.map V.str)[i]? = some v := ev
    rw [List.length_map] at hi
    rw [List.getElem?_map] at ev
    obtain ⟨y, hy, rfl⟩ := Option.map_eq_some_iff.mp ev
    have e3 : Ext H (upd G0 T (.tup [.int (i : Nat), .str y])) := e2.trans (Ext.new nT)
    have gT : (upd G0 T (.tup [.int (i : Nat), .str y])) T = some (.tup [.int (i : Nat), .str y]) := upd_same
    generalize upd G0 T (.tup [.int (i : Nat), .str y]) = G1 at e3 gT ⊢
    have ym : y ∈ ys := List.mem_of_getElem? hy
    have yl := pf.short y ym
    have lrow : ∀ s ∈ rowsOf cols ys.length, s.length = cols.length := fun s hs => by
      obtain ⟨k, _, rfl⟩ := List.mem_map.mp hs
      exact rowTxt_len cols k
    have idx : ∀ j, ys[j]? = some y → j = i := fun j hj => by
      have h1 := (List.getElem?_eq_some_iff.mp hj).1
      exact (List.getElem_inj pf.nd).mp (Option.some.inj ((List.getElem?_eq_getElem h1).symm.trans (hj.trans (hy.symm.trans (List.getElem?_eq_getElem hi)))))
    have row : ∀ j s, ys[j]? = some y → (rowsOf cols ys.length)[j]? = some s → s = rowTxt cols i := fun j s hj hs => by
      rw [idx j hj, rowsOf_at hi] at hs
      exact (Option.some.inj hs).symm
    refine ⟨T, _, rfl, SqT.of gT, rfl, _, _, rfl, _, _, rfl, rfl, ?_⟩
    refine ⟨dx, _, e3 _ _ a1, rfl, a, ys, rowsOf cols ys.length, y, rfl, hA.ext e3, pf.nd, len_rowsOf.symm, by omega, fun z => absurd ym z, fun j s hj hs => ?_⟩
    rw [row j s hj hs]
    refine ⟨d, i, ys, cols, rfl, hC.ext e3, pf.ok, hi, by omega, fun G2 e4 => ?_⟩
    refine brF (by simp) ?_
    have e34 := e3.trans e4
    have lb : ∀ bs ∈ cols, i < bs.length := fun bs hb => by rw [(pf.ok bs hb).1]; exact hi
    refine ⟨(show 2 ≤ sizeLine by decide), fun r nr => ?_⟩
    have e5 : Ext H (upd G2 r (.tup [.str y, .int 0])) := e34.trans (Ext.new nr)
    have gr : (upd G2 r (.tup [.str y, .int 0])) r = some (.tup [.str y, .int 0]) := upd_same
    generalize upd G2 r (.tup [.str y, .int 0]) = G3 at e5 gr ⊢
    refine ⟨dx, _, e5 _ _ a1, a, r, ys, rowsOf cols ys.length, cols.length, y, 0, rfl, hA.ext e5, SqT.of gr, pf.nd, len_rowsOf.symm, l1, lrow, by omega, by omega, fun z => absurd ym z, fun _ z => absurd ⟨Int.le_refl 0, by omega⟩ z, fun j s cc hj hs _ hcc => ?_⟩
    rw [row j s hj hs] at hcc
    obtain ⟨bs, hb1, hb2⟩ := rowTxt_at hcc
    have eb : bs = b0 := Option.some.inj (hb1.symm.trans q0)
    subst eb
    have lbb := lb bs (List.mem_of_getElem? hb1)
    refine ⟨_, .int bs[i], .inl (SqL.of (e5 _ _ r0)), atI_nat (by rw [List.getElem?_map, List.getElem?_eq_getElem lbb]; rfl), ?_⟩
    have same : ∀ (b : Int), decide (cellC b = 35) = decide (b = 1) := fun b => by
      unfold cellC
      by_cases hb : b = 1
      · simp [hb]
      · simp [hb]
    have gd : bs.getD i 0 = bs[i] := by simp [List.getD_eq_getElem?_getD, lbb]
    rw [hb2, gd]
    refine brF (by simp [same]) ?_
    refine ⟨_, .ref c, .inl (e5 _ _ h1), sh_cols, _, .inl (SqL.of (e5 _ _ h3)), (show 2 ≤ sizeLine by decide), fun r2 nr2 => ?_⟩
    have e6 : Ext H (upd G3 r2 (.tup [.str y, .int ((((cas.map V.ref).length : Nat) : Int) - 1)])) := e5.trans (Ext.new nr2)
    have gr2 : (upd G3 r2 (.tup [.str y, .int ((((cas.map V.ref).length : Nat) : Int) - 1)])) r2 = some (.tup [.str y, .int ((((cas.map V.ref).length : Nat) : Int) - 1)]) := upd_same
    generalize upd G3 r2 (.tup [.str y, .int ((((cas.map V.ref).length : Nat) : Int) - 1)]) = G4 at e6 gr2 ⊢
    have lc : (((cas.map V.ref).length : Nat) : Int) - 1 = ((cas.length - 1 : Nat) : Int) := by
      rw [List.length_map]
      omega
    rw [lc] at gr2
    refine ⟨dx, _, e6 _ _ a1, a, r2, ys, rowsOf cols ys.length, cols.length, y, ((cas.length - 1 : Nat) : Int), rfl, hA.ext e6, SqT.of gr2, pf.nd, len_rowsOf.symm, l1, lrow, by omega, by omega, fun z => absurd ym z, fun _ z => absurd ⟨by omega, by omega⟩ z, fun j s cc hj hs _ hcc => ?_⟩
    rw [row j s hj hs, Int.toNat_natCast] at hcc
    obtain ⟨bs', hb1', hb2'⟩ := rowTxt_at hcc
    have eb' : bs' = bl := Option.some.inj (hb1'.symm.trans ql)
    subst eb'
    have lbb' := lb bs' (List.mem_of_getElem? hb1')
    refine ⟨_, .int bs'[i], .inl (SqL.of (e6 _ _ rl)), atI_nat (by rw [List.getElem?_map, List.getElem?_eq_getElem lbb']; rfl), ?_⟩
    have gd' : bs'.getD i 0 = bs'[i] := by simp [List.getD_eq_getElem?_getD, lbb']
    rw [hb2', gd']
    exact brF (by simp [same]) ⟨e6, _, _, rfl⟩
  · rintro σ G ⟨e2, x4, x5, rfl⟩
    refine ⟨_, dx, _, _, e2 _ _ a1, rfl, rfl, d, ys, cols, rfl, hC.ext e2, pf.ok, pf.short, l3, by omega, fun G2 e3 => ?_⟩
    have z := q G2 (e2.trans e3)
    show Q (.bl (decide (txtOf ys (rowsOf cols ys.length) = txtOf ys (rowsOf cols ys.length)))) G2
    rw [decide_eq_true rfl]
    exact z
/-! ### the law's own look at names -/
def sp_tracks_wrong (_ : PySem.W.Frag) : Sp := fun vs H Q _ => ∃ (p : Addr) (xs : List Str), vs = [.ref p] ∧ H p = some (.lst (xs.map V.str)) ∧ (∀ x ∈ xs, x.length < 16777216 ∧ okS x) ∧ ∀ H', Ext H H' → Q (.int (match wrongAt 0 [] xs with | some i => (i : Int) | none => -1)) H'
theorem len_tracks_wrong (h : sp_tracks_wrong K vs H Q E) : vs.length = 1 := by
  obtain ⟨_, _, rfl, _⟩ := h
  rfl
def N_tracks_wrong : List Str := ["_law_names", "_law_at", "_law_name"]
def t_tracks_wrong (K : PySem.W.Frag) (E : XK) : TS :=
  (tSeq (yFor (jEnum K (yVar 0)) (gTup K 2 (gCons (gName 1) (gCons (gName 2) gNil))) (yIf (yOr (yTst (tOp zEq (yVar 1) (tC (.int 3)))) (yOr (yNot (yTst (yCall (sp_is_name K) E0 (tCons (yVar 2) tNil)))) (yTst (tOp (zIn K false) (yVar 2) (tSl (zSlL K) (yVar 0) tNoPart (tPart (yVar 1))))))) (tRet (yVar 1)) tNext))
    (tRet (yIfE (yTst (tOp (zNeD K) (yVar 0) (tLst tNil))) (tUn zNeg (tC (.int 1))) (tC (.int 0)))))
theorem pure_tracks_wrong (h : sp_tracks_wrong K vs H Q E) : t_tracks_wrong K E (dEnd Q) (start N_tracks_wrong vs) H := by
  obtain ⟨p, xs, rfl, hp, hl, q⟩ := h
  refine ⟨_, SqL.of hp, fun i σ H' => Ext H H' ∧ (∃ x1 x2, σ = [some (.ref p), x1, x2]) ∧ i ≤ 3 ∧ wrongAt i (xs.take i) (xs.drop i) = wrongAt 0 [] xs, ⟨Ext.refl H, ⟨_, _, rfl⟩, by omega, rfl⟩, fun i σ H' _ pv => SqL.of (pv.1 _ _ hp), fun i x σ H1 H2 hi pv y => ?_, fun σ H' pv => ?_⟩
  · obtain ⟨e1, ⟨x1, x2, rfl⟩, i3, hw⟩ := pv
    obtain ⟨T, u, v, rfl, nT, rfl, eu, ev⟩ := y
    cases eu
    have ev : (xs.map V.str)[i]? = some v := ev
    rw [List.length_map] at hi
    rw [List.getElem?_map] at ev
    obtain ⟨n, hn, rfl⟩ := Option.map_eq_some_iff.mp ev
    have hn' : xs[i] = n := Option.some.inj ((List.getElem?_eq_getElem hi).symm.trans hn)
    have hd : xs.drop i = n :: xs.drop (i + 1) := by rw [List.drop_eq_getElem_cons hi, hn']
    have ht : xs.take (i + 1) = xs.take i ++ [n] := by rw [List.take_succ_eq_append_getElem hi, hn']
    rw [hd] at hw
    have e2 : Ext H1 (upd H1 T (.tup [.int (i : Nat), .str n])) := Ext.new nT
    have bad : (i = 3 ∨ nameOk n = false ∨ n ∈ xs.take i) → ∀ H3, Ext H H3 → Q (.int (i : Nat)) H3 := fun hb H3 e3 => by
      have hw2 : wrongAt 0 [] xs = some i := by rw [← hw]; exact if_pos hb
      have := q H3 e3
      rw [hw2] at this
      exact this
    refine ⟨T, _, rfl, SqT.of upd_same, rfl, _, _, rfl, _, _, rfl, rfl, ?_⟩
    refine brD (fun h3 => ?_) fun h3 => ?_
    · have z : ((i : Nat) : Int) = 3 := by simpa using h3
      exact brT rfl (bad (.inl (by omega)) _ (e1.trans e2))
    · have h3 : i ≠ 3 := fun z => h3 (by rw [z]; rfl)
      obtain ⟨ln, okn⟩ := hl n (List.mem_of_getElem? hn)
      refine ⟨n, rfl, ln, okn, fun H3 e3 => ?_⟩
      have e13 := e2.trans e3
      refine br (fun h4 => ?_) fun h4 => ?_
      · exact brT rfl (bad (.inr (.inl (by simpa using h4))) _ (e1.trans e13))
      · have h4 : nameOk n = true := by simpa using h4
        have ec := cutV_to (xs := xs.map V.str) (k := i) (by rw [List.length_map]; omega)
        rw [← List.map_take] at ec
        refine ⟨_, rfl, _, SqL.of ((e1.trans e13) _ _ hp), fun r nr => ⟨_, .inl (SqL.of upd_same), rfl, by rw [ec]; exact flat_strs, ?_⟩⟩
        rw [ec, inV_str]
        have e4 : Ext H3 (upd H3 r (.lst ((xs.take i).map V.str))) := Ext.new nr
        refine brD (fun h5 => bad (.inr (.inr h5)) _ ((e1.trans e13).trans e4)) fun h5 => ⟨(e1.trans e13).trans e4, ⟨_, _, rfl⟩, by omega, ?_⟩
        rw [← hw, ht]
        exact (if_neg (by rintro (z | z | z)
                          · exact h3 z
                          · rw [h4] at z; cases z
                          · exact h5 z)).symm
  · obtain ⟨e1, ⟨x1, x2, rfl⟩, i3, hw⟩ := pv
    rw [List.length_map, List.drop_length, List.take_length] at hw
    have hw : (if xs.length = 0 then some 0 else none) = wrongAt 0 [] xs := hw
    have lay : (xs.map V.str).all okV = true := List.all_eq_true.mpr fun z hz => by
      obtain ⟨n, hn, rfl⟩ := List.mem_map.mp hz
      exact okS_lay (hl n hn).2
    refine ⟨Nat.zero_le _, fun r nr => ⟨_, .list [], .lst (SqL.of ((Ext.new nr) _ _ (e1 _ _ hp))) (dpAll_flat flat_strs'), .lst (SqL.of upd_same) .nil, shaped_flatL lay, by decide, ?_⟩⟩
    rw [eqv_nilL]
    have z := q _ (e1.trans (Ext.new nr (o := .lst [])))
    rw [← hw] at z
    by_cases h0 : xs = []
    · subst h0
      exact brF (by simp) z
    · rw [if_neg (by
        intro h
        exact h0 (List.eq_nil_of_length_eq_zero h))] at z
      exact brT (by simp [h0]) z
end
section
variable {P : Program} {w : World} {K : PySem.W.Frag} {mg : Str → Option Value} {base : Heap}
abbrev s_cut_plain : Stmt := top 34
theorem sc_cut_plain : FnScope N_cut_plain ["_law_sheet", "_law_columns"] (defScope s_cut_plain) := ⟨rfl, rfl, rfl, by decide +kernel, rfl, by decide +kernel, by decide +kernel⟩
theorem ok_cut_plain {f : Addr} {fd : FuncData} (B : Blt mg)   (F : FunD K "_law_cut_plain" "_law_cut_plain" (defArgs s_cut_plain) (defBody s_cut_plain) (defScope s_cut_plain) [] [] f fd) : FnOk P w K mg base (L2.CX P w) 1 f fd ["_law_sheet", "_law_columns"] (sp_cut_plain K) := by
  refine F.ok sc_cut_plain (fun vs H Q E h => len_cut_plain h) (fun cdv A outer s H vs Q E hr h => ⟨t_cut_plain K E, ?_, pure_cut_plain h⟩)
  have hu := hu_of hr
  exact (pss_one (ps_ret (pe_disp (pps_cons pe_str (ye_dget hu (yv 0) pe_str (fun _ _ => rfl)) (pps_cons pe_str (ye_lc (own := [("_law_k", 2)]) (g := (gName 2)) (tt := tYes) rfl sc_cut_plain.nd (j_lst (ye_srtSet rfl rfl B.sorted rfl B.set (yv 1))) (blkOk_by (N := N_cut_plain) (sc := defScope s_cut_plain) (by decide +kernel)) (fun _ _ _ _ _ => (pg_name (i := 2) sc_cut_plain.nd rfl (by first | exact Or.inl rfl | exact Or.inr rfl))) (fun _ _ _ _ _ => pts_nil) (fun _ _ _ _ _ => (pe_callTy cr_list rfl B.list (by decide +kernel) (pa_cons (pe_ix ix_zIxL (ye_dget hu (yv 0) pe_str (fun _ _ => rfl)) (yv 2) (fun _ _ => rfl)) pa_nil)))) pps_nil)) (by rfl) (by rfl) (by simp) (by decide))))
abbrev s_shows : Stmt := top 35
theorem sc_shows : FnScope N_shows ["_law_sheet", "_law_plain"] (defScope s_shows) := ⟨rfl, rfl, rfl, by decide +kernel, rfl, by decide +kernel, by decide +kernel⟩
theorem ok_shows {f : Addr} {fd : FuncData} (B : Blt mg) (c_Sheet_len : OMe P w K mg base "Sheet" "__len__" 1 ["self"] (sp_Sheet_len K)) (c_Sheet_getitem : OMe P w K mg base "Sheet" "__getitem__" 3 ["self", "at"] (sp_Sheet_getitem K)) (c_Sheet_cells : OMe P w K mg base "Sheet" "cells" 3 ["self", "track"] (sp_Sheet_cells K)) (c_cells_text : Cal P w K mg base "_law_cells_text" 1 ["_law_sheet", "_law_number"] (sp_cells_text K)) (c_sheet_text : Cal P w K mg base "_law_sheet_text" 2 ["_law_sheet"] (sp_sheet_text K))  (CF : ∀ x f, (x, f) ∈ fldN → Cls K (He.ga K x) ∧ NoAttr K (He.ga K x) f) (fi_Sheet : ∀ f, Meth K (He.ga K "Sheet") "__getitem__" f → PySem.W.fnIn K f = true) (F : FunD K "_law_shows" "_law_shows" (defArgs s_shows) (defBody s_shows) (defScope s_shows) [] [] f fd) : FnOk P w K mg base (L2.CX P w) 5 f fd ["_law_sheet", "_law_plain"] (sp_shows K) := by
  refine F.ok sc_shows (fun vs H Q E h => len_shows h) (fun cdv A outer s H vs Q E hr h => ⟨t_shows K E, ?_, pure_shows h⟩)
  have hu := hu_of hr
  have po := passes_of (X := cxOf (L2.CX P w) P w K mg base N_shows "_law_shows" (defScope s_shows) f cdv A outer s H E) rfl
  have tk : Takes (cxOf (L2.CX P w) P w K mg base N_shows "_law_shows" (defScope s_shows) f cdv A outer s H E) (fun cls d _ H => E cls d H) := takes_of rfl rfl rfl rfl
  exact (pss_cons (ys_par (ps_par (i := 2) (j := 3) (by rfl) sc_shows.nd rfl rfl (by decide) rfl rfl (PA.up (pa_cons (pe_ix ix_zIxL (ye_dget hu (yv 1) pe_str (fun _ _ => rfl)) pe_int (fun _ _ => rfl)) (pa_cons (pe_ix ix_zIxL (ye_dget hu (yv 1) pe_str (fun _ _ => rfl)) (pe_un un_zNeg pe_int) (fun _ _ => rfl)) pa_nil))) (by rfl)))
    (pss_cons (ys_if (PW.pt (yt_or (yt_cmp (op_zNeD hr.units) (ye_fld (cf1 (CF "Sheet" "tracks" (by decide))) (yv 0) rfl) (pe_callTy cr_tuple rfl B.tuple (by decide +kernel) (pa_cons (ye_dget hu (yv 1) pe_str (fun _ _ => rfl)) pa_nil)) (by rfl)) (pw_or1 (yt_cmp op_zNe (pe_callB (cr_lenO c_Sheet_len (hr.mono (by decide))) rfl B.len boot_len (pa_cons (yv 0) pa_nil)) (pe_callB cr_len rfl B.len boot_len (pa_cons (ye_dget hu (yv 1) pe_str (fun _ _ => rfl)) pa_nil)) (by rfl))))) (pss_one (ps_ret pe_bl)) pss_nil)
    (pss_cons (ys_for po rfl (j_enum rfl B.enumerate (ye_dget hu (yv 1) pe_str (fun _ _ => rfl))) (pg_tup rfl (pgs_cons (pg_name (i := 4) sc_shows.nd rfl (by first | exact Or.inl rfl | exact Or.inr rfl)) (pgs_cons (pg_name (i := 5) sc_shows.nd rfl (by first | exact Or.inl rfl | exact Or.inr rfl)) pgs_nil))) (pss_cons (ys_if (PW.pt (yt_or (yt_cmp op_zNe (ye_meth c_Sheet_cells tk (hr.mono (by decide)) (yv 0) (pa_cons (yv 5) pa_nil)) (ye_call c_cells_text (hr.mono (by decide)) rfl (pa_cons (yv 1) (pa_cons (yv 4) pa_nil))) (by rfl)) (pw_or1 (yt_cmp op_zNe (ye_getO c_Sheet_getitem fi_Sheet tk (hr.mono (by decide)) (yv 0) (pe_tup (pa_cons (yv 5) (pa_cons pe_int pa_nil)))) (pe_cmpR op_zEq (pe_ix ix_zIxL (yv 2) (yv 4) (fun _ _ => rfl)) pe_int (by rfl)) (by rfl))))) (pss_one (ps_ret pe_bl)) pss_nil)
    (pss_one (ys_if (yt_cmp op_zNe (ye_getO c_Sheet_getitem fi_Sheet tk (hr.mono (by decide)) (yv 0) (pe_tup (pa_cons (yv 5) (pa_cons (pe_op op_zSub (pe_callB cr_len rfl B.len boot_len (pa_cons (ye_dget hu (yv 1) pe_str (fun _ _ => rfl)) pa_nil)) pe_int) pa_nil)))) (pe_cmpR op_zEq (pe_ix ix_zIxL (yv 3) (yv 4) (fun _ _ => rfl)) pe_int (by rfl)) (by rfl)) (pss_one (ps_ret pe_bl)) pss_nil))))
    (pss_one (ps_ret (pe_cmpR op_zEq (ye_fld (cf1 (CF "Sheet" "text" (by decide))) (yv 0) rfl) (ye_call c_sheet_text (hr.mono (by decide)) rfl (pa_cons (yv 1) pa_nil)) (by rfl)))))))
abbrev s_tracks_wrong : Stmt := top 37
theorem sc_tracks_wrong : FnScope N_tracks_wrong ["_law_names"] (defScope s_tracks_wrong) := ⟨rfl, rfl, rfl, by decide +kernel, rfl, by decide +kernel, by decide +kernel⟩
theorem ok_tracks_wrong {f : Addr} {fd : FuncData} (B : Blt mg) (c_is_name : Cal P w K mg base "_law_is_name" 2 ["_law_word"] (sp_is_name K))  (F : FunD K "_law_tracks_wrong" "_law_tracks_wrong" (defArgs s_tracks_wrong) (defBody s_tracks_wrong) (defScope s_tracks_wrong) [] [] f fd) : FnOk P w K mg base (L2.CX P w) 3 f fd ["_law_names"] (sp_tracks_wrong K) := by
  refine F.ok sc_tracks_wrong (fun vs H Q E h => len_tracks_wrong h) (fun cdv A outer s H vs Q E hr h => ⟨t_tracks_wrong K E, ?_, pure_tracks_wrong h⟩)
  have po := passes_of (X := cxOf (L2.CX P w) P w K mg base N_tracks_wrong "_law_tracks_wrong" (defScope s_tracks_wrong) f cdv A outer s H E) rfl
  exact (pss_cons (ys_for po rfl (j_enum rfl B.enumerate (yv 0)) (pg_tup rfl (pgs_cons (pg_name (i := 1) sc_tracks_wrong.nd rfl (by first | exact Or.inl rfl | exact Or.inr rfl)) (pgs_cons (pg_name (i := 2) sc_tracks_wrong.nd rfl (by first | exact Or.inl rfl | exact Or.inr rfl)) pgs_nil))) (pss_one (ys_if (PW.pt (yt_or (yt_cmp op_zEq (yv 1) pe_int (by rfl)) (yt_or (yt_not (yt_val (ye_call c_is_name (hr.mono (by decide)) rfl (pa_cons (yv 2) pa_nil)))) (pw_or1 (yt_cmp op_zIn (yv 2) (pe_slice sl_zL (yv 0) po_none (po_some (yv 1))) (by rfl)))))) (pss_one (ps_ret (yv 1))) pss_nil)))
    (pss_one (ps_ret (ye_if (yt_cmp (op_zNeD hr.units) (yv 0) (pe_lst pa_nil) (by rfl)) (pe_un un_zNeg pe_int) pe_int))))
end
end Eb

namespace Eb
open PySem PySem.Spec PyProof.Rows L2
/-- what the head tells -/
structure SF (K : PySem.W.Frag) : Prop where
  bar : ∀ H, SqT K H (He.ga K "BARRED") (BARRED.map V.str)
  kit : PySem.W.kitOne K (.type "str") (.ref (He.ga K "Rows")) = some false
  xf : XFs K ERR
  pc : PlainC K (He.ga K "Sheet")
  kS : PySem.W.kitOne K (.ref (He.ga K "Sheet")) (.ref (He.ga K "Sheet")) = some true
  rk : RK K
section
variable {K : PySem.W.Frag} {vs : List V} {H : Hp} {Q : VK} {E : XK}
theorem pow30 : CPow 10 30 := by unfold CPow; decide
/-- a told refusal is the due one: both tuples stand -/
theorem same_due {A B : Prop} {G : Hp} {p1 p2 : Addr} {t : Str} {x : V} (hx : flatV x = true) (hk : okV x = true) (ht : okV (.str t) = true) (h1 : G p1 = some (.tup [.str t, x, .bl true])) (h2 : G p2 = some (.tup [.str t, x, .bl true])) (q : B) :
    ∃ d e, Dp K G (.ref p1) d ∧ Dp K G (.ref p2) e ∧ SeqAt.shaped d = true ∧ SeqAt.shaped e = true ∧ yBr (!PyData.eqv d e) A B := by
  have hf : [V.str t, x, .bl true].all flatV = true := by
    show (true && (flatV x && (true && true))) = true
    rw [hx]
    rfl
  have ho : [V.str t, x, .bl true].all okV = true := by
    show (okV (.str t) && (okV x && (okV (.bl true) && true))) = true
    rw [ht, hk]
    rfl
  refine ⟨.tuple ([V.str t, x, .bl true].map dataV), .tuple ([V.str t, x, .bl true].map dataV), .tup (SqT.of h1) (dpAll_flat hf), .tup (SqT.of h2) (dpAll_flat hf), shaped_flatT ho, shaped_flatT ho, brF ?_ q⟩
  cases x <;> first | (simp [PyData.eqv, PyData.eqvAll, dataV]) | (simp [flatV] at hx)
theorem SheetAt.put {G : Hp} {a b : Addr} {ns ss : List Str} {xs : List V} {o : HO} (h : SheetAt K G a ns ss) (hb : G b = some (.lst xs)) : SheetAt K (upd G b o) a ns ss := by
  obtain ⟨dx, t1, t2, d, h1, h2, h3, h4⟩ := h
  exact ⟨dx, t1, t2, d, by rw [upd_ne (fun z => by rw [z, hb] at h1; cases h1)]; exact h1, by rw [upd_ne (fun z => by rw [z, hb] at h2; cases h2)]; exact h2, by rw [upd_ne (fun z => by rw [z, hb] at h3; cases h3)]; exact h3, by rw [upd_ne (fun z => by rw [z, hb] at h4; cases h4)]; exact h4⟩
theorem tabs_put {T : List (Addr × Str)} {G : Hp} {b : Addr} {xs : List V} {o : HO} (t : LamX.Tabs T G) (hb : G b = some (.lst xs)) : LamX.Tabs T (upd G b o) := fun p hp => by
  obtain ⟨ps, h1, h2, h3⟩ := t p hp
  refine ⟨ps, by rw [upd_ne (fun z => by rw [z, hb] at h1; cases h1)]; exact h1, h2, fun pos cv hc => ?_⟩
  obtain ⟨c, e, hco⟩ := h3 pos cv hc
  exact ⟨c, e, by rw [upd_ne (fun z => by rw [z, hb] at hco; cases hco)]; exact hco⟩
def ODD (y : Str) : List Str := ["", "left", "A", "zz", "yy", y]
theorem odd_good : ∀ x ∈ (["", "left", "A", "zz", "yy"] : List Str), x.length < 16777216 ∧ okS x := by
  intro x hx
  have key : ∀ x ∈ (["", "left", "A", "zz", "yy"] : List Str), x.length < 16777216 ∧ (x.cps.toList.all fun c => decide (c < 1114112)) = true := by decide +kernel
  obtain ⟨h1, h2⟩ := key x hx
  refine ⟨h1, fun c hc => ?_⟩
  have := List.all_eq_true.mp h2 c hc
  simpa using this
theorem names_good : ∀ x ∈ NAMES, x.length < 16777216 ∧ okS x := by
  intro x hx
  have key : ∀ x ∈ NAMES, x.length < 16777216 ∧ (x.cps.toList.all fun c => decide (c < 1114112)) = true := by decide +kernel
  obtain ⟨h1, h2⟩ := key x hx
  refine ⟨h1, fun c hc => ?_⟩
  have := List.all_eq_true.mp h2 c hc
  simpa using this
def zeros (n m : Nat) : List (List Int) := List.replicate m (List.replicate n 0)
theorem rows_zeros {ys : List Str} {m : Nat} : rowsOf (zeros ys.length m) ys.length = ys.map fun _ => repS "." m := by
  apply List.ext_getElem
  · simp [rowsOf]
  · intro i h1 h2
    have hi : i < ys.length := by simpa using h2
    simp only [rowsOf, List.getElem_map, List.getElem_range]
    apply Str.ext'
    apply Array.ext'
    have e1 : (rowTxt (zeros ys.length m) i).cps.toList = List.replicate m 46 := by
      unfold rowTxt zeros
      simp [List.getD_eq_getElem?_getD, hi, cellC]
    rw [e1]
    have e2 : ∀ k (b : Array Nat), ((List.replicate k (#[46] : Array Nat)).foldl (· ++ ·) b).toList = b.toList ++ List.replicate k 46 := by
      intro k
      induction k with
      | zero => intro b; simp
      | succ k ih =>
        intro b
        rw [List.replicate_succ, List.foldl_cons, ih, Array.toList_append, List.replicate_succ]
        simp
    have e3 := e2 m #[]
    unfold repS
    show _ = ((List.replicate m (("." : Str)).cps).foldl (· ++ ·) #[]).toList
    exact e3.symm
def sp_blank_right (K : PySem.W.Frag) : Sp := fun vs H Q _ => ∃ (p c l : Addr) (n : Nat) (ys : List Str), vs = [.ref p, .ref l] ∧ PenAt H p c n ∧ n + 100 < 1152921504606846976 ∧ H l = some (.lst (ys.map V.str)) ∧ ys.Nodup ∧ (∀ y ∈ ys, y ∈ NAMES) ∧ 1 ≤ ys.length ∧ ys.length ≤ 3 ∧ LamX.Tabs (TB K) H ∧ SF K ∧
  ∀ H', PenAt H' p c (n + 50) → LamX.Tabs (TB K) H' → Q (.bl true) H'
theorem len_blank_right (h : sp_blank_right K vs H Q E) : vs.length = 2 := by
  obtain ⟨_, _, _, _, _, rfl, _⟩ := h
  rfl
def N_blank_right : List Str := ["_law_pen", "_law_tracks", "_law_names", "_law_change", "_law_wrong", "_law_n", "_law_due", "_law_handed", "_law_made", "_law_blank"]
def t_blank_right (K : PySem.W.Frag) (E : XK) : TS :=
  (tSeq (tAsg (tCB (zList K) (tCons (yVar 1) tNil)) (gName 2))
    (tSeq (yFor (jRng (yCall (sp_draw K) E0 (tCons (yVar 0) (tCons (tC (.int 3)) tNil)))) (gName 3) (tDrop (tBM K "list" zIns (yVar 2) (tCons (yCall (sp_draw K) E0 (tCons (yVar 0) (tCons (tOp zAdd (tCB (zLen K) (tCons (yVar 2) tNil)) (tC (.int 1))) tNil))) (tCons (yCall (sp_pick K) E0 (tCons (yVar 0) (tCons (tLst (tCons (tC (.str "")) (tCons (tC (.str "left")) (tCons (tC (.str "A")) (tCons (tC (.str "zz")) (tCons (tC (.str "yy")) (tCons (tOp (zIxL K) (yVar 1) (tC (.int 0))) tNil))))))) tNil))) tNil)))))
    (tSeq (tAsg (yIfE (yTst (tOp zEq (yCall (sp_draw K) E0 (tCons (yVar 0) (tCons (tC (.int 9)) tNil))) (tC (.int 0)))) (tLst tNil) (yVar 2)) (gName 2))
    (tSeq (tAsg (tTup (tCons (yCall (sp_tracks_wrong K) E0 (tCons (yVar 2) tNil)) (tCons (yCall (sp_pick K) E0 (tCons (yVar 0) (tCons (tLst (tCons (tC (.int 1)) (tCons (tC (.int 2)) (tCons (tC (.int 17)) (tCons (tC (.int 999)) (tCons (tC (.int 1000)) (tCons (tC (.int 0)) (tCons (tUn zNeg (tC (.int 1))) (tCons (tC (.int 1001)) (tCons (tOp zPow (tC (.int 10)) (tC (.int 30))) tNil)))))))))) tNil))) tNil))) (gTup K 2 (gCons (gName 4) (gCons (gName 5) gNil))))
    (tSeq (tAsg (yIfE (yTst (tOp zGe (yVar 4) (tC (.int 0)))) (tTup (tCons (tC (.str "tracks")) (tCons (yVar 4) (tCons (tC (.bl true)) tNil)))) (yIfE (yTst (yChain zLe zLe (tC (.int 1)) (yVar 5) (tC (.int 1000)))) (tC .non) (tTup (tCons (tC (.str "count")) (tCons (yVar 5) (tCons (tC (.bl true)) tNil)))))) (gName 6))
    (tSeq (yIf (yTst (tOp (zNeD K) (yLam (TB K) (TT_refused K) (fun EL => (yCMeth (He.ga K "Sheet") (sp_Sheet_blank K) (fun cls d _ H => EL cls d H) (tC (.ref (He.ga K "Sheet"))) (tCons (yVar 2) (tCons (yVar 5) tNil))))) (yVar 6))) (tRet (tC (.bl false))) tNext)
    (tSeq (tAsg (tCB (zList K) (tCons (yVar 1) tNil)) (gName 7))
    (tSeq (tAsg (yCMeth (He.ga K "Sheet") (sp_Sheet_blank K) (fun cls d _ H => E cls d H) (tC (.ref (He.ga K "Sheet"))) (tCons (yVar 7) (tCons (tC (.int 3)) tNil))) (gName 8))
    (tSeq (tDrop (tBM K "list" zApp (yVar 7) (tCons (tC (.str "zz")) tNil)))
    (tSeq (tAsg (tDisp (((tC (.str "tracks")), (yVar 1)) :: (((tC (.str "cols")), (tOp zRepL (tLst (tCons (tOp zRepL (tLst (tCons (tC (.int 0)) tNil)) (tCB (zLen K) (tCons (yVar 1) tNil))) tNil)) (tC (.int 3)))) :: []))) (gName 9))
    (tRet (yAndV (yCall (sp_shows K) E0 (tCons (yVar 8) (tCons (yVar 9) tNil))) (tOp (zEqO (He.ga K "Sheet") (sp_Sheet_eq K)) (yCMeth (He.ga K "Sheet") (sp_Sheet_blank K) (fun cls d _ H => E cls d H) (tC (.ref (He.ga K "Sheet"))) (tCons (tCB (zTuple K) (tCons (yVar 1) tNil)) (tCons (tC (.int 3)) tNil))) (yVar 8))))))))))))))
def t_blank_b (K : PySem.W.Frag) (E : XK) : TS :=
  (tSeq (tAsg (yIfE (yTst (tOp zEq (yCall (sp_draw K) E0 (tCons (yVar 0) (tCons (tC (.int 9)) tNil))) (tC (.int 0)))) (tLst tNil) (yVar 2)) (gName 2))
    (tSeq (tAsg (tTup (tCons (yCall (sp_tracks_wrong K) E0 (tCons (yVar 2) tNil)) (tCons (yCall (sp_pick K) E0 (tCons (yVar 0) (tCons (tLst (tCons (tC (.int 1)) (tCons (tC (.int 2)) (tCons (tC (.int 17)) (tCons (tC (.int 999)) (tCons (tC (.int 1000)) (tCons (tC (.int 0)) (tCons (tUn zNeg (tC (.int 1))) (tCons (tC (.int 1001)) (tCons (tOp zPow (tC (.int 10)) (tC (.int 30))) tNil)))))))))) tNil))) tNil))) (gTup K 2 (gCons (gName 4) (gCons (gName 5) gNil))))
    (tSeq (tAsg (yIfE (yTst (tOp zGe (yVar 4) (tC (.int 0)))) (tTup (tCons (tC (.str "tracks")) (tCons (yVar 4) (tCons (tC (.bl true)) tNil)))) (yIfE (yTst (yChain zLe zLe (tC (.int 1)) (yVar 5) (tC (.int 1000)))) (tC .non) (tTup (tCons (tC (.str "count")) (tCons (yVar 5) (tCons (tC (.bl true)) tNil)))))) (gName 6))
    (tSeq (yIf (yTst (tOp (zNeD K) (yLam (TB K) (TT_refused K) (fun EL => (yCMeth (He.ga K "Sheet") (sp_Sheet_blank K) (fun cls d _ H => EL cls d H) (tC (.ref (He.ga K "Sheet"))) (tCons (yVar 2) (tCons (yVar 5) tNil))))) (yVar 6))) (tRet (tC (.bl false))) tNext)
    (tSeq (tAsg (tCB (zList K) (tCons (yVar 1) tNil)) (gName 7))
    (tSeq (tAsg (yCMeth (He.ga K "Sheet") (sp_Sheet_blank K) (fun cls d _ H => E cls d H) (tC (.ref (He.ga K "Sheet"))) (tCons (yVar 7) (tCons (tC (.int 3)) tNil))) (gName 8))
    (tSeq (tDrop (tBM K "list" zApp (yVar 7) (tCons (tC (.str "zz")) tNil)))
    (tSeq (tAsg (tDisp (((tC (.str "tracks")), (yVar 1)) :: (((tC (.str "cols")), (tOp zRepL (tLst (tCons (tOp zRepL (tLst (tCons (tC (.int 0)) tNil)) (tCB (zLen K) (tCons (yVar 1) tNil))) tNil)) (tC (.int 3)))) :: []))) (gName 9))
    (tRet (yAndV (yCall (sp_shows K) E0 (tCons (yVar 8) (tCons (yVar 9) tNil))) (tOp (zEqO (He.ga K "Sheet") (sp_Sheet_eq K)) (yCMeth (He.ga K "Sheet") (sp_Sheet_blank K) (fun cls d _ H => E cls d H) (tC (.ref (He.ga K "Sheet"))) (tCons (tCB (zTuple K) (tCons (yVar 1) tNil)) (tCons (tC (.int 3)) tNil))) (yVar 8))))))))))))
def t_blank_e (K : PySem.W.Frag) (E : XK) : TS :=
  (tSeq (tAsg (tTup (tCons (yCall (sp_tracks_wrong K) E0 (tCons (yVar 2) tNil)) (tCons (yCall (sp_pick K) E0 (tCons (yVar 0) (tCons (tLst (tCons (tC (.int 1)) (tCons (tC (.int 2)) (tCons (tC (.int 17)) (tCons (tC (.int 999)) (tCons (tC (.int 1000)) (tCons (tC (.int 0)) (tCons (tUn zNeg (tC (.int 1))) (tCons (tC (.int 1001)) (tCons (tOp zPow (tC (.int 10)) (tC (.int 30))) tNil)))))))))) tNil))) tNil))) (gTup K 2 (gCons (gName 4) (gCons (gName 5) gNil))))
    (tSeq (tAsg (yIfE (yTst (tOp zGe (yVar 4) (tC (.int 0)))) (tTup (tCons (tC (.str "tracks")) (tCons (yVar 4) (tCons (tC (.bl true)) tNil)))) (yIfE (yTst (yChain zLe zLe (tC (.int 1)) (yVar 5) (tC (.int 1000)))) (tC .non) (tTup (tCons (tC (.str "count")) (tCons (yVar 5) (tCons (tC (.bl true)) tNil)))))) (gName 6))
    (tSeq (yIf (yTst (tOp (zNeD K) (yLam (TB K) (TT_refused K) (fun EL => (yCMeth (He.ga K "Sheet") (sp_Sheet_blank K) (fun cls d _ H => EL cls d H) (tC (.ref (He.ga K "Sheet"))) (tCons (yVar 2) (tCons (yVar 5) tNil))))) (yVar 6))) (tRet (tC (.bl false))) tNext)
    (tSeq (tAsg (tCB (zList K) (tCons (yVar 1) tNil)) (gName 7))
    (tSeq (tAsg (yCMeth (He.ga K "Sheet") (sp_Sheet_blank K) (fun cls d _ H => E cls d H) (tC (.ref (He.ga K "Sheet"))) (tCons (yVar 7) (tCons (tC (.int 3)) tNil))) (gName 8))
    (tSeq (tDrop (tBM K "list" zApp (yVar 7) (tCons (tC (.str "zz")) tNil)))
    (tSeq (tAsg (tDisp (((tC (.str "tracks")), (yVar 1)) :: (((tC (.str "cols")), (tOp zRepL (tLst (tCons (tOp zRepL (tLst (tCons (tC (.int 0)) tNil)) (tCB (zLen K) (tCons (yVar 1) tNil))) tNil)) (tC (.int 3)))) :: []))) (gName 9))
    (tRet (yAndV (yCall (sp_shows K) E0 (tCons (yVar 8) (tCons (yVar 9) tNil))) (tOp (zEqO (He.ga K "Sheet") (sp_Sheet_eq K)) (yCMeth (He.ga K "Sheet") (sp_Sheet_blank K) (fun cls d _ H => E cls d H) (tC (.ref (He.ga K "Sheet"))) (tCons (tCB (zTuple K) (tCons (yVar 1) tNil)) (tCons (tC (.int 3)) tNil))) (yVar 8)))))))))))
def t_blank_c (K : PySem.W.Frag) (E : XK) : TS :=
  (tSeq (yIf (yTst (tOp (zNeD K) (yLam (TB K) (TT_refused K) (fun EL => (yCMeth (He.ga K "Sheet") (sp_Sheet_blank K) (fun cls d _ H => EL cls d H) (tC (.ref (He.ga K "Sheet"))) (tCons (yVar 2) (tCons (yVar 5) tNil))))) (yVar 6))) (tRet (tC (.bl false))) tNext)
    (tSeq (tAsg (tCB (zList K) (tCons (yVar 1) tNil)) (gName 7))
    (tSeq (tAsg (yCMeth (He.ga K "Sheet") (sp_Sheet_blank K) (fun cls d _ H => E cls d H) (tC (.ref (He.ga K "Sheet"))) (tCons (yVar 7) (tCons (tC (.int 3)) tNil))) (gName 8))
    (tSeq (tDrop (tBM K "list" zApp (yVar 7) (tCons (tC (.str "zz")) tNil)))
    (tSeq (tAsg (tDisp (((tC (.str "tracks")), (yVar 1)) :: (((tC (.str "cols")), (tOp zRepL (tLst (tCons (tOp zRepL (tLst (tCons (tC (.int 0)) tNil)) (tCB (zLen K) (tCons (yVar 1) tNil))) tNil)) (tC (.int 3)))) :: []))) (gName 9))
    (tRet (yAndV (yCall (sp_shows K) E0 (tCons (yVar 8) (tCons (yVar 9) tNil))) (tOp (zEqO (He.ga K "Sheet") (sp_Sheet_eq K)) (yCMeth (He.ga K "Sheet") (sp_Sheet_blank K) (fun cls d _ H => E cls d H) (tC (.ref (He.ga K "Sheet"))) (tCons (tCB (zTuple K) (tCons (yVar 1) tNil)) (tCons (tC (.int 3)) tNil))) (yVar 8)))))))))
def t_blank_d (K : PySem.W.Frag) (E : XK) : TS :=
  (tSeq (tAsg (tCB (zList K) (tCons (yVar 1) tNil)) (gName 7))
    (tSeq (tAsg (yCMeth (He.ga K "Sheet") (sp_Sheet_blank K) (fun cls d _ H => E cls d H) (tC (.ref (He.ga K "Sheet"))) (tCons (yVar 7) (tCons (tC (.int 3)) tNil))) (gName 8))
    (tSeq (tDrop (tBM K "list" zApp (yVar 7) (tCons (tC (.str "zz")) tNil)))
    (tSeq (tAsg (tDisp (((tC (.str "tracks")), (yVar 1)) :: (((tC (.str "cols")), (tOp zRepL (tLst (tCons (tOp zRepL (tLst (tCons (tC (.int 0)) tNil)) (tCB (zLen K) (tCons (yVar 1) tNil))) tNil)) (tC (.int 3)))) :: []))) (gName 9))
    (tRet (yAndV (yCall (sp_shows K) E0 (tCons (yVar 8) (tCons (yVar 9) tNil))) (tOp (zEqO (He.ga K "Sheet") (sp_Sheet_eq K)) (yCMeth (He.ga K "Sheet") (sp_Sheet_blank K) (fun cls d _ H => E cls d H) (tC (.ref (He.ga K "Sheet"))) (tCons (tCB (zTuple K) (tCons (yVar 1) tNil)) (tCons (tC (.int 3)) tNil))) (yVar 8))))))))
/-- the list handed in may be changed later -/
theorem blank_d {G : Hp} {p c l : Addr} {n : Nat} {ys : List Str} {x2 x3 x4 x5 x6 x7 x8 x9 : Option V} (P : PenAt G p c n) (hl : G l = some (.lst (ys.map V.str))) (nd : ys.Nodup) (nm : ∀ y ∈ ys, y ∈ NAMES) (y1 : 1 ≤ ys.length) (y3 : ys.length ≤ 3) (T : LamX.Tabs (TB K) G) (S : SF K)
    (q : ∀ H', PenAt H' p c n → LamX.Tabs (TB K) H' → Q (.bl true) H') : t_blank_d K E (dEnd Q) [some (.ref p), some (.ref l), x2, x3, x4, x5, x6, x7, x8, x9] G := by
  have good : wrongAt 0 [] ys = none := by
    have key : ∀ (r : List Str) (i : Nat) (seen : List Str), seen.length = i → (seen ++ r).Nodup → (∀ y ∈ r, nameOk y = true) → i + r.length ≤ 3 → 1 ≤ i + r.length → wrongAt i seen r = none := by
      intro r
      induction r with
      | nil =>
        intro i seen _ _ _ _ h1
        exact if_neg (by rw [List.length_nil] at h1; omega)
      | cons a r ih =>
        intro i seen hs hn ho h3 h1
        rw [List.length_cons] at h3
        have h4 : ¬ (i = 3 ∨ nameOk a = false ∨ a ∈ seen) := by
          rintro (z | z | z)
          · omega
          · rw [ho a (List.mem_cons_self ..)] at z
            cases z
          · exact (List.nodup_append.mp hn).2.2 a z a (List.mem_cons_self ..) rfl
        have h5 : wrongAt i seen (a :: r) = wrongAt (i + 1) (seen ++ [a]) r := if_neg h4
        rw [h5]
        exact ih (i + 1) _ (by simp [hs]) (by rw [List.append_assoc]; exact hn) (fun y hy => ho y (List.mem_cons_of_mem _ hy)) (by omega) (by omega)
    exact key ys 0 [] rfl (by simpa using nd) (fun y hy => names_ok' y (nm y hy)) (by omega) (by omega)
  have short : ∀ x ∈ ys, x.length < 16777216 := fun x hx => (names_good x (nm x hx)).1
  refine ⟨_, .inl (SqL.of hl), fun b nb => ?_⟩
  have e1 : Ext G (upd G b (.lst (ys.map V.str))) := Ext.new nb
  have gb : (upd G b (.lst (ys.map V.str))) b = some (.lst (ys.map V.str)) := upd_same
  generalize upd G b (.lst (ys.map V.str)) = G1 at e1 gb ⊢
  refine ⟨rfl, b, ys, 3, rfl, .inl gb, short, S.bar, S.rk, fun i z => by rw [good] at z; (cases z), fun _ z => absurd ⟨by decide, by decide⟩ z, fun _ _ _ a G2 e2 na hA => ?_⟩
  have e12 := e1.trans e2
  have nbl : b ≠ l := fun z => by rw [z, hl] at nb; cases nb
  have g2 := e2 _ _ gb
  refine ⟨tyL g2, _, g2, ?_, ?_⟩
  · rw [List.length_map, sizeLine_eq]
    omega
  have P3 : PenAt (upd G2 b (.lst (ys.map V.str ++ [.str "zz"]))) p c n := (P.ext e12).mut (P.ne nb).1 (P.ne nb).2
  have T3 : LamX.Tabs (TB K) (upd G2 b (.lst (ys.map V.str ++ [.str "zz"]))) := tabs_put (T.ext e12) g2
  have A3 : SheetAt K (upd G2 b (.lst (ys.map V.str ++ [.str "zz"]))) a ys (ys.map fun _ => repS "." (3 : Int).toNat) := hA.put g2
  have l3 : (upd G2 b (.lst (ys.map V.str ++ [.str "zz"]))) l = some (.lst (ys.map V.str)) := by
    rw [upd_ne nbl.symm]
    exact e12 _ _ hl
  generalize upd G2 b (.lst (ys.map V.str ++ [.str "zz"])) = G3 at P3 T3 A3 l3 ⊢
  refine fun d nd0 => ⟨(show 1 ≤ sizeLine by decide), fun u1 n1 => ?_⟩
  have k1 : Ext G3 (upd G3 d (.dK [])) := Ext.new nd0
  have gd : (upd G3 d (.dK [])) d = some (.dK []) := upd_same
  generalize upd G3 d (.dK []) = G4 at k1 gd n1 ⊢
  have k2 : Ext G4 (upd G4 u1 (.lst [.int 0])) := Ext.new n1
  have gu1 : (upd G4 u1 (.lst [.int 0])) u1 = some (.lst [.int 0]) := upd_same
  generalize upd G4 u1 (.lst [.int 0]) = G5 at k2 gu1 ⊢
  have k12 := k1.trans k2
  refine ⟨_, .inl (SqL.of (k12 _ _ l3)), _, gu1, by omega, by rw [List.length_map]; omega, ?_, fun u2 n2 => ⟨(show 1 ≤ sizeLine by decide), fun u3 n3 => ?_⟩⟩
  · rw [List.length_map, sizeLine_eq]
    have : ((ys.length : Nat) : Int).toNat = ys.length := rfl
    show 1 * ((ys.length : Nat) : Int).toNat ≤ _
    rw [this]
    omega
  have ez : (List.replicate (((ys.map V.str).length : Nat) : Int).toNat [V.int 0]).flatten = (List.replicate ys.length (0 : Int)).map V.int := by
    rw [Int.toNat_natCast, List.length_map]
    induction ys.length with
    | zero => rfl
    | succ k ih =>
      rw [List.replicate_succ, List.flatten_cons, ih, List.replicate_succ]
      rfl
  rw [ez] at n3 ⊢
  have k3 : Ext G5 (upd G5 u2 (.lst ((List.replicate ys.length (0 : Int)).map V.int))) := Ext.new n2
  have gu2 : (upd G5 u2 (.lst ((List.replicate ys.length (0 : Int)).map V.int))) u2 = some (.lst ((List.replicate ys.length (0 : Int)).map V.int)) := upd_same
  generalize upd G5 u2 (.lst ((List.replicate ys.length (0 : Int)).map V.int)) = G6 at k3 gu2 n3 ⊢
  have k4 : Ext G6 (upd G6 u3 (.lst [.ref u2])) := Ext.new n3
  have gu3 : (upd G6 u3 (.lst [.ref u2])) u3 = some (.lst [.ref u2]) := upd_same
  generalize upd G6 u3 (.lst [.ref u2]) = G7 at k4 gu3 ⊢
  refine ⟨_, gu3, by decide, by decide, (show 1 * 3 ≤ sizeLine by decide), fun u4 n4 => ?_⟩
  have k5 : Ext G7 (upd G7 u4 (.lst (List.replicate (Int.toNat 3) [V.ref u2]).flatten)) := Ext.new n4
  have gu4 : (upd G7 u4 (.lst (List.replicate (Int.toNat 3) [V.ref u2]).flatten)) u4 = some (.lst [.ref u2, .ref u2, .ref u2]) := upd_same
  generalize upd G7 u4 (.lst (List.replicate (Int.toNat 3) [V.ref u2]).flatten) = G8 at k5 gu4 ⊢
  have kk := ((k2.trans k3).trans k4).trans k5
  have k38 := k1.trans kk
  refine ⟨kk _ _ gd, [(Sum.inr "tracks", .ref l), (Sum.inr "cols", .ref u4)], rfl, (show 2 ≤ 15 by decide), ?_⟩
  rw [show mergeK [] [(Sum.inr "tracks", V.ref l), (Sum.inr "cols", V.ref u4)] = shKvs l u4 from merge_sh]
  have k9 : Ext G3 (upd G8 d (.dK (shKvs l u4))) := k38.mut nd0
  have st : ∀ {b : Addr} {xs : List V}, G8 b = some (.lst xs) → (upd G8 d (.dK (shKvs l u4))) b = some (.lst xs) := fun {b xs} hb => by
    rw [upd_ne (fun z => by rw [z, kk _ _ gd] at hb; cases hb)]
    exact hb
  have gC : SheetC (upd G8 d (.dK (shKvs l u4))) d ys (zeros ys.length 3) := ⟨l, u4, [u2, u2, u2], upd_same, st (k38 _ _ l3), st gu4, rfl, fun i x hx => by
    have ex : x = u2 := by
      have := List.mem_of_getElem? hx
      simpa using this
    subst ex
    have hi := (List.getElem?_eq_some_iff.mp hx).1
    refine ⟨List.replicate ys.length 0, ?_, st ((k4.trans k5) _ _ gu2)⟩
    unfold zeros
    rw [List.getElem?_replicate]
    have : i < 3 := hi
    simp [this]⟩
  generalize upd G8 d (.dK (shKvs l u4)) = G9 at k9 gC ⊢
  have A9 : SheetAt K G9 a ys (rowsOf (zeros ys.length 3) ys.length) := by
    rw [rows_zeros]
    exact A3.ext k9
  have pf : PF ys (zeros ys.length 3) := ⟨nd, y1, y3, fun y hy => nameOk_12 (names_ok' y (nm y hy)), fun y hy => okS_lay (names_good y (nm y hy)).2, fun bs hb => by
    rw [show bs = List.replicate ys.length 0 from (List.mem_replicate.mp hb).2]
    exact ⟨by simp, fun b hb => .inl (List.mem_replicate.mp hb).2⟩, by simp [zeros], by simp [zeros]⟩
  refine ⟨a, d, ys, _, rfl, A9, gC, pf, fun G10 e10 => brT rfl ?_⟩
  have k10 := k9.trans e10
  refine ⟨rfl, _, .inl ⟨SqL.of (k10 _ _ l3), fun u nu => ?_⟩⟩
  have e11 : Ext G10 (upd G10 u (.tup (ys.map V.str))) := Ext.new nu
  have gu : (upd G10 u (.tup (ys.map V.str))) u = some (.tup (ys.map V.str)) := upd_same
  generalize upd G10 u (.tup (ys.map V.str)) = G11 at e11 gu ⊢
  refine ⟨u, ys, 3, rfl, .inr gu, short, S.bar, S.rk, fun i z => by rw [good] at z; (cases z), fun _ z => absurd ⟨by decide, by decide⟩ z, fun _ _ _ a2 G12 e12 na2 hA2 => ?_⟩
  have k12' := (k10.trans e11).trans e12
  obtain ⟨dxa, _, _, _, ea, _⟩ := id (A3.ext k12')
  obtain ⟨dxb, _, _, _, eb, _⟩ := id hA2
  refine ⟨dxb, _, dxa, _, eb, ea, a2, a, _, _, _, _, rfl, hA2, A3.ext k12', S.pc, S.kS, ?_⟩
  show Q (.bl (decide _)) G12
  rw [decide_eq_true rfl]
  exact q _ (P3.ext k12') (T3.ext k12')
theorem not_pen_tup {xs : List V} : ¬ isPen (.tup xs) := fun z => z
/-- the refusal is the due one -/
theorem blank_c {G : Hp} {p c l r : Addr} {n : Nat} {ys xs : List Str} {w nn : Int} {due : V} {x3 x7 x8 x9 : Option V} (P : PenAt G p c n) (hl : G l = some (.lst (ys.map V.str))) (nd : ys.Nodup) (nm : ∀ y ∈ ys, y ∈ NAMES) (y1 : 1 ≤ ys.length) (y3 : ys.length ≤ 3) (T : LamX.Tabs (TB K) G) (S : SF K)
    (hr : G r = some (.lst (xs.map V.str))) (hx : ∀ x ∈ xs, x.length < 16777216 ∧ okS x)
    (hd : (∃ (i : Nat) (u : Addr), wrongAt 0 [] xs = some i ∧ due = .ref u ∧ G u = some (.tup [.str "tracks", .int (i : Nat), .bl true])) ∨ (wrongAt 0 [] xs = none ∧ 1 ≤ nn ∧ nn ≤ 1000 ∧ due = .non) ∨ (wrongAt 0 [] xs = none ∧ ¬ (1 ≤ nn ∧ nn ≤ 1000) ∧ ∃ u, due = .ref u ∧ G u = some (.tup [.str "count", .int nn, .bl true])))
    (q : ∀ H', PenAt H' p c n → LamX.Tabs (TB K) H' → Q (.bl true) H') : t_blank_c K E (dEnd Q) [some (.ref p), some (.ref l), some (.ref r), x3, some (.int w), some (.int nn), some due, x7, x8, x9] G := by
  have go : ∀ G', PenAt G' p c n → G' l = some (.lst (ys.map V.str)) → LamX.Tabs (TB K) G' → t_blank_d K E (dEnd Q) [some (.ref p), some (.ref l), some (.ref r), x3, some (.int w), some (.int nn), some due, x7, x8, x9] G' := fun G' P' l' T' => blank_d P' l' nd nm y1 y3 T' S q
  refine ⟨T, fun G3 e3 T3 => ⟨S.xf, rfl, r, xs, nn, rfl, .inl (e3 _ _ hr (by intro _ z; cases z)), fun x h => (hx x h).1, S.bar, S.rk, fun i hi d G4 e4 nd4 hd4 => ?_, fun hn hc d G4 e4 nd4 hd4 => ?_, fun hn h1 h2 a G4 e4 na hA => ?_⟩⟩
  · refine .inr (.inr (.inl ⟨rfl, d, _, rfl, hd4, fun p1 np1 => ?_⟩))
    obtain ⟨i', u, h1, rfl, hu⟩ | ⟨h1, _⟩ | ⟨h1, _⟩ := hd
    · have ei : i' = i := Option.some.inj (h1.symm.trans hi)
      subst ei
      have e5 : Ext G3 (upd G4 p1 (.tup [.str "tracks", .int (i' : Nat), .bl true])) := e4.trans (Ext.new np1)
      exact same_due rfl rfl (by decide +kernel) upd_same (e5 _ _ (e3 _ _ hu (by intro _ z; cases z))) (go _ ((pen_extN P e3).ext e5) (e5 _ _ (e3 _ _ hl (by intro _ z; cases z))) (T3.ext e5))
    · rw [h1] at hi
      cases hi
    · rw [h1] at hi
      cases hi
  · refine .inr (.inl ⟨rfl, d, _, rfl, hd4, fun p1 np1 => ?_⟩)
    obtain ⟨i', u, h1, rfl, hu⟩ | ⟨h1, h2, h3, _⟩ | ⟨h1, h2, u, rfl, hu⟩ := hd
    · rw [h1] at hn
      cases hn
    · exact absurd ⟨h2, h3⟩ hc
    · have e5 : Ext G3 (upd G4 p1 (.tup [.str "count", .int nn, .bl true])) := e4.trans (Ext.new np1)
      exact same_due rfl rfl (by decide +kernel) upd_same (e5 _ _ (e3 _ _ hu (by intro _ z; cases z))) (go _ ((pen_extN P e3).ext e5) (e5 _ _ (e3 _ _ hl (by intro _ z; cases z))) (T3.ext e5))
  · obtain ⟨i', u, z1, rfl, hu⟩ | ⟨z1, z2, z3, rfl⟩ | ⟨z1, z2, u, rfl, hu⟩ := hd
    · rw [z1] at hn
      cases hn
    · exact ⟨.none, .none, .non, .non, rfl, rfl, brF rfl (go _ ((pen_extN P e3).ext e4) (e4 _ _ (e3 _ _ hl (by intro _ z; cases z))) (T3.ext e4))⟩
    · exact absurd ⟨h1, h2⟩ z2
/-- what is due -/
theorem blank_e {G : Hp} {p c l r : Addr} {n : Nat} {ys xs : List Str} {x3 x4 x5 x6 x7 x8 x9 : Option V} (P : PenAt G p c n) (hn : n + 10 < 1152921504606846976) (hl : G l = some (.lst (ys.map V.str))) (nd : ys.Nodup) (nm : ∀ y ∈ ys, y ∈ NAMES) (y1 : 1 ≤ ys.length) (y3 : ys.length ≤ 3) (T : LamX.Tabs (TB K) G) (S : SF K)
    (hr : G r = some (.lst (xs.map V.str))) (hx : ∀ x ∈ xs, x.length < 16777216 ∧ okS x)
    (q : ∀ H', PenAt H' p c (n + 1) → LamX.Tabs (TB K) H' → Q (.bl true) H') : t_blank_e K E (dEnd Q) [some (.ref p), some (.ref l), some (.ref r), x3, x4, x5, x6, x7, x8, x9] G := by
  refine ⟨r, xs, rfl, hr, hx, fun G1 e1 => ⟨pow30, (show 9 ≤ sizeLine by decide), fun b nb => ?_⟩⟩
  have e2 : Ext G (upd G1 b (.lst [.int 1, .int 2, .int 17, .int 999, .int 1000, .int 0, .int (-1), .int 1001, .int (10 ^ (30 : Int).toNat)])) := e1.trans (Ext.new nb)
  refine ⟨p, c, b, n, _, rfl, P.ext e2, by omega, upd_same, (show 0 < 9 by decide), (show 9 < 1000000000 by decide), fun v G2 hv k2 P2 => ⟨(show 2 ≤ sizeLine by decide), fun u nu => ⟨u, _, rfl, SqT.of upd_same, rfl, _, _, rfl, _, _, rfl, rfl, ?_⟩⟩⟩
  obtain ⟨nn, rfl⟩ : ∃ nn, v = .int nn := by
    simp only [List.mem_cons, List.not_mem_nil, or_false] at hv
    rcases hv with rfl | rfl | rfl | rfl | rfl | rfl | rfl | rfl | rfl <;> exact ⟨_, rfl⟩
  have e3 : ∀ {o : HO}, Ext G2 (upd G2 u o) := fun {o} => Ext.new nu
  have kk : ∀ {o : HO}, Kp G (upd G2 u o) := fun {o} => ((Kp.of e2).trans k2).trans (Kp.of e3)
  have PP : ∀ {o : HO}, PenAt (upd G2 u o) p c (n + 1) := fun {o} => P2.ext e3
  generalize hw : wrongAt 0 [] xs = w0 at nu ⊢
  have fin : ∀ (o : HO) (w : Int) (due : V) (u2 : Addr) (o2 : HO), (upd G2 u o) u2 = none → ((∃ i : Nat, w0 = some i ∧ due = .ref u2 ∧ o2 = (.tup [.str "tracks", .int (i : Nat), .bl true])) ∨ (w0 = none ∧ ¬ (1 ≤ nn ∧ nn ≤ 1000) ∧ due = .ref u2 ∧ o2 = (.tup [.str "count", .int nn, .bl true]))) →
      t_blank_c K E (dEnd Q) [some (.ref p), some (.ref l), some (.ref r), x3, some (.int w), some (.int nn), some due, x7, x8, x9] (upd (upd G2 u o) u2 o2) := fun o w due u2 o2 n2 hd => by
    have e4 : Ext (upd G2 u o) (upd (upd G2 u o) u2 o2) := Ext.new n2
    refine blank_c (PP.ext e4) (e4 _ _ (kk.lst hl)) nd nm y1 y3 ((tabs_kp T kk).ext e4) S (e4 _ _ (kk.lst hr)) hx ?_ q
    rw [hw]
    rcases hd with ⟨i, h1, h2, rfl⟩ | ⟨h1, h2, h3, rfl⟩
    · exact .inl ⟨i, u2, h1, h2, upd_same⟩
    · exact .inr (.inr ⟨h1, h2, u2, h3, upd_same⟩)
  cases w0 with
  | some i => exact brT (decide_eq_true (show ((i : Nat) : Int) ≥ 0 by omega)) ⟨(show 3 ≤ sizeLine by decide), fun u2 n2 => fin _ _ _ u2 _ n2 (.inl ⟨i, rfl, rfl, rfl⟩)⟩
  | none =>
    refine brF (decide_eq_false (show ¬ ((-1 : Int) ≥ 0) by decide)) ?_
    refine brD (fun h1 => brD (fun h2 => ?_) fun h2 => ?_) fun h1 => brF rfl ?_
    · exact blank_c PP (kk.lst hl) nd nm y1 y3 (tabs_kp T kk) S (kk.lst hr) hx (.inr (.inl ⟨hw, h1, h2, rfl⟩)) q
    · exact ⟨(show 3 ≤ sizeLine by decide), fun u2 n2 => fin _ _ _ u2 _ n2 (.inr ⟨rfl, fun z => h2 z.2, rfl, rfl⟩)⟩
    · exact ⟨(show 3 ≤ sizeLine by decide), fun u2 n2 => fin _ _ _ u2 _ n2 (.inr ⟨rfl, fun z => h1 z.1, rfl, rfl⟩)⟩
theorem blank_b {G : Hp} {p c l : Addr} {n : Nat} {ys xs : List Str} {x3 x4 x5 x6 x7 x8 x9 : Option V} {q0 : Addr} (P : PenAt G p c n) (hn : n + 20 < 1152921504606846976) (hl : G l = some (.lst (ys.map V.str))) (nd : ys.Nodup) (nm : ∀ y ∈ ys, y ∈ NAMES) (y1 : 1 ≤ ys.length) (y3 : ys.length ≤ 3) (T : LamX.Tabs (TB K) G) (S : SF K)
    (hr : G q0 = some (.lst (xs.map V.str))) (hx : ∀ x ∈ xs, x.length < 16777216 ∧ okS x)
    (q : ∀ H', PenAt H' p c (n + 2) → LamX.Tabs (TB K) H' → Q (.bl true) H') : t_blank_b K E (dEnd Q) [some (.ref p), some (.ref l), some (.ref q0), x3, x4, x5, x6, x7, x8, x9] G := by
  refine ⟨p, c, n, 9, rfl, P, by omega, by decide, by decide, fun r G1 r0 r1 k1 P1 => ?_⟩
  refine br (fun _ => ⟨Nat.zero_le _, fun b nb => ?_⟩) fun _ => ?_
  · have k2 := k1.trans (Kp.new nb (o := .lst []))
    exact blank_e (xs := []) (P1.new nb) (by omega) (k2.lst hl) nd nm y1 y3 (tabs_kp T k2) S upd_same (fun x z => by cases z) q
  · exact blank_e P1 (by omega) (k1.lst hl) nd nm y1 y3 (tabs_kp T k1) S (k1.lst hr) hx q
theorem pure_blank_right (h : sp_blank_right K vs H Q E) : t_blank_right K E (dEnd Q) (start N_blank_right vs) H := by
  obtain ⟨p, c, l, n, ys, rfl, P, hn, hl, nd, nm, y1, y3, T, S, q⟩ := h
  refine ⟨_, .inl (SqL.of hl), fun b nb => ?_⟩
  have k0 : Kp H (upd H b (.lst (ys.map V.str))) := Kp.new nb
  refine ⟨p, c, n, 3, rfl, P.new nb, by omega, by decide, by decide, fun r0 G1 r1 r2 k1 P1 => ?_⟩
  have k01 := k0.trans k1
  have gb : G1 b = some (.lst (ys.map V.str)) := k1.lst upd_same
  have fine : ∀ x ∈ ys, x.length < 16777216 ∧ okS x := fun x hx => names_good x (nm x hx)
  refine ⟨by omega, by omega, fun i σ G => (∃ (xs : List Str) (x3 : Option V), σ = [some (.ref p), some (.ref l), some (.ref b), x3, none, none, none, none, none, none] ∧ G b = some (.lst (xs.map V.str)) ∧ xs.length ≤ 3 + i ∧ ∀ x ∈ xs, x.length < 16777216 ∧ okS x) ∧ Kp H G ∧ PenAt G p c (n + 1 + 2 * i),
    ⟨⟨ys, _, rfl, gb, by omega, fine⟩, k01, P1⟩, fun _ _ _ _ _ => trivial, ?_, ?_⟩
  · rintro i x σ G0 G hi ⟨⟨xs, x3, rfl, gx, lx, fx⟩, k2, P2⟩ ⟨eG, rfl⟩
    have eG : G = G0 := eG
    subst eG
    have hi : i < 3 := by
      have z : i < r0.toNat := hi
      omega
    have y0 : ys[0]? = some (ys[0]'(by omega)) := List.getElem?_eq_getElem _
    refine ⟨tyL gx, _, .inl (SqL.of gx), ?_⟩
    refine ⟨p, c, _, _, rfl, P2, by omega, by rw [List.length_map]; omega, ?_, fun j G2 j0 j1 k3 P3 => ?_⟩
    · rw [show ((((xs.map V.str).length : Nat) : Int) + 1) = ((xs.length + 1 : Nat) : Int) by
        rw [List.length_map]
        omega]
      exact log_small (by omega)
    rw [List.length_map] at j1
    have k23 := k2.trans k3
    refine ⟨_, .str (ys[0]'(by omega)), .inl (SqL.of (k23.lst hl)), atI_nat (by rw [List.getElem?_map, y0]; rfl), (show 6 ≤ sizeLine by decide), fun u nu => ?_⟩
    refine ⟨p, c, u, _, _, rfl, P3.new nu, by omega, upd_same, (show 0 < 6 by decide), (show 6 < 1000000000 by decide), fun v G3 hv k4 P4 => ?_⟩
    have gx3 : G3 b = some (.lst (xs.map V.str)) := k4.lst ((Kp.new nu).lst (k3.lst gx))
    obtain ⟨z, rfl, fz⟩ : ∃ z : Str, v = .str z ∧ z.length < 16777216 ∧ okS z := by
      simp only [List.mem_cons, List.not_mem_nil, or_false] at hv
      rcases hv with rfl | rfl | rfl | rfl | rfl | rfl
      · exact ⟨_, rfl, odd_good _ (by simp)⟩
      · exact ⟨_, rfl, odd_good _ (by simp)⟩
      · exact ⟨_, rfl, odd_good _ (by simp)⟩
      · exact ⟨_, rfl, odd_good _ (by simp)⟩
      · exact ⟨_, rfl, odd_good _ (by simp)⟩
      · exact ⟨_, rfl, fine _ (List.getElem_mem _)⟩
    have kk := (k23.trans (Kp.new nu (o := .lst [.str "", .str "left", .str "A", .str "zz", .str "yy", .str (ys[0]'(by omega))]))).trans k4
    refine ⟨_, gx3, by rw [List.length_map, sizeLine_eq]; omega, j0, by omega, ?_⟩
    refine ⟨⟨xs.take j.toNat ++ [z] ++ xs.drop j.toNat, _, rfl, by rw [upd_same]; simp [List.map_take, List.map_drop], ?_, fun x hx => ?_⟩, kk.mut nb, P4.mut (P.ne nb).1 (P.ne nb).2⟩
    · rw [List.length_append, List.length_append, List.length_take, List.length_drop, List.length_singleton]
      omega
    · rcases List.mem_append.mp hx with hx | hx
      · rcases List.mem_append.mp hx with hx | hx
        · exact fx x (List.mem_of_mem_take hx)
        · rw [show x = z by simpa using hx]
          exact fz
      · exact fx x (List.mem_of_mem_drop hx)
  · rintro σ G ⟨⟨xs, x3, rfl, gx, lx, fx⟩, k2, P2⟩
    have hr0 : r0.toNat ≤ 2 := by omega
    exact blank_b P2 (by omega) (k2.lst hl) nd nm y1 y3 (tabs_kp T k2) S gx fx fun H' P' T' => q H' (P'.mono (by omega)) T'
end
end Eb

namespace Eb
open PySem PySem.Spec PyProof.Rows L2
theorem repS_list {ch : Nat} : ∀ {n : Nat}, (repS ⟨#[ch]⟩ n).cps.toList = List.replicate n ch := by
  have e2 : ∀ k (b : Array Nat), ((List.replicate k (#[ch] : Array Nat)).foldl (· ++ ·) b).toList = b.toList ++ List.replicate k ch := by
    intro k
    induction k with
    | zero => intro b; simp
    | succ k ih =>
      intro b
      rw [List.replicate_succ, List.foldl_cons, ih, Array.toList_append, List.replicate_succ]
      simp
  intro n
  have e3 := e2 n #[]
  unfold repS
  show ((List.replicate n (#[ch] : Array Nat)).foldl (· ++ ·) #[]).toList = _
  rw [e3]
  rfl
/-- rows of a thousand signs -/
structure HPs (hh pp : Str) : Prop where
  eh : repS "#" (1000 : Int).toNat = hh
  ep : repS "." (1000 : Int).toNat = pp
  hl : hh.cps.toList = List.replicate 1000 35
  pl : pp.cps.toList = List.replicate 1000 46
theorem cat_list (a b : Str) : (a ++ b).cps.toList = a.cps.toList ++ b.cps.toList := by
  show (a.cps ++ b.cps).toList = _
  rw [Array.toList_append]
theorem str_eq {a b : Str} (h : a.cps.toList = b.cps.toList) : a = b := Str.ext' (Array.ext' h)
theorem one_txt (s : Str) : txtOf ["top"] [s] = "top " ++ s := by
  unfold txtOf
  rw [show Txt.join "\n" (List.zipWith lineOf ["top"] [s]) = Str.join "\n" (List.zipWith lineOf ["top"] [s]) from StrLaws.glued_eq_join _ _]
  show lineOf "top" s = _
  rw [lineOf_eq]
  apply str_eq
  rw [cat_list, cat_list, cat_list]
  rfl
theorem rev_cat {a b : Str} : revS (a ++ b) = revS b ++ revS a := by
  apply str_eq
  rw [cat_list]
  show (a ++ b).cps.toList.reverse.toArray.toList = _
  rw [cat_list]
  simp [revS]
theorem ne_of {x y : Str} (h : x = y) : (!decide (x = y)) = false := by simp [h]
section
variable {hh pp : Str} (F : HPs hh pp)
include F
theorem HPs.h1000 : hh.length = 1000 := by
  show hh.cps.size = 1000
  rw [← Array.length_toList, F.hl, List.length_replicate]
theorem HPs.p1000 : pp.length = 1000 := by
  show pp.cps.size = 1000
  rw [← Array.length_toList, F.pl, List.length_replicate]
theorem HPs.row : rowOk hh = true := by
  unfold rowOk allIn
  rw [F.h1000, F.hl]
  simp only [Bool.and_eq_true, decide_eq_true_eq]
  refine ⟨by decide, by decide, List.all_eq_true.mpr fun c hc => ?_⟩
  rw [(List.mem_replicate.mp hc).2]
  decide
theorem HPs.sh : ShOk ["top"] [hh] 1000 := ⟨by decide, fun y hy => by
  rw [show y = "top" by simpa using hy]
  decide +kernel, rfl, by decide, by decide, fun s hs => by
  rw [show s = hh by simpa using hs]
  exact ⟨F.row, F.h1000⟩⟩
theorem HPs.rh : revS hh = hh := by
  apply str_eq
  show hh.cps.toList.reverse.toArray.toList = _
  rw [F.hl]
  simp
theorem HPs.rp : revS pp = pp := by
  apply str_eq
  show pp.cps.toList.reverse.toArray.toList = _
  rw [F.pl]
  simp
theorem HPs.len : (hh ++ pp).length = 2000 := by
  rw [Str.length_append, F.h1000, F.p1000]
theorem HPs.list : (hh ++ pp).cps.toList = List.replicate 1000 35 ++ List.replicate 1000 46 := by
  rw [cat_list, F.hl, F.pl]
theorem HPs.at {i c : Nat} (h : (hh ++ pp).cps.toList[i]? = some c) : c = if i < 1000 then 35 else 46 := by
  rw [F.list] at h
  by_cases hi : i < 1000
  · rw [List.getElem?_append_left (by simpa using hi), List.getElem?_replicate, if_pos hi] at h
    rw [if_pos hi]
    exact (Option.some.inj h).symm
  · rw [List.getElem?_append_right (by simp; omega), List.getElem?_replicate] at h
    split at h
    · rw [if_neg hi]
      exact (Option.some.inj h).symm
    · cases h
theorem HPs.is {i c : Nat} (h : i < 2000) (hc : c = if i < 1000 then 35 else 46) : (hh ++ pp).cps.getD i 0 = c := by
  have l : i < (hh ++ pp).cps.toList.length := by
    rw [F.list]
    simp
    omega
  rw [hc, ← F.at (List.getElem?_eq_getElem l), Array.getD_eq_getD_getElem?, ← Array.getElem?_toList, List.getElem?_eq_getElem l]
  rfl
end
theorem ok_top {s : Str} (h : s.length ≤ 1000000) : RowsOk ["top"] [s] := ⟨rfl, by decide, fun n hn => by
  rw [show n = "top" by simpa using hn]
  decide +kernel, fun x hx => by
  rw [show x = s by simpa using hx]
  exact h⟩
theorem sorted_three {ks : List Int} (pw : ks.Pairwise (· < ·)) (mem : ∀ k, k ∈ ks ↔ k ∈ ([1999, 0, 1000] : List Int)) : ks = [0, 1000, 1999] := by
  have h0 : (0 : Int) ∈ ks := (mem 0).mpr (by decide)
  have h1 : (1000 : Int) ∈ ks := (mem 1000).mpr (by decide)
  have h2 : (1999 : Int) ∈ ks := (mem 1999).mpr (by decide)
  have only : ∀ k ∈ ks, k = 0 ∨ k = 1000 ∨ k = 1999 := fun k hk => by
    have := (mem k).mp hk
    simp at this
    omega
  match ks, pw, h0, h1, h2, only with
  | [], _, h, _, _, _ => cases h
  | [a], _, h0, h1, _, _ => 
    have e0 : (0 : Int) = a := by simpa using h0
    have e1 : (1000 : Int) = a := by simpa using h1
    omega
  | [a, b], pw, h0, h1, h2, _ =>
    simp at h0 h1 h2
    omega
  | a :: b :: d :: r, pw, h0, h1, h2, only =>
    have p1 := List.pairwise_cons.mp pw
    have p2 := List.pairwise_cons.mp p1.2
    have p3 := List.pairwise_cons.mp p2.2
    have ab := p1.1 b (by simp)
    have bd := p2.1 d (by simp)
    have ea := only a (by simp)
    have eb := only b (by simp)
    have ed := only d (by simp)
    have er : r = [] := by
      cases r with
      | nil => rfl
      | cons x r =>
        have dx := p3.1 x (by simp)
        have ex := only x (by simp)
        omega
    subst er
    have a0 : a = 0 := by omega
    have b0 : b = 1000 := by omega
    have d0 : d = 1999 := by omega
    rw [a0, b0, d0]
section
variable {K : PySem.W.Frag} {vs : List V} {H : Hp} {Q : VK} {E : XK} {hh pp : Str}
theorem make_sheet {R : Addr → Hp → Prop} {E' : XK} {ys ss : List Str} {m : Nat} {H1 : Hp} (S : SF K) (sh : ShOk ys ss m) (hm : m ≤ 1000) (q : ∀ x G', Ext H1 G' → H1 x = none → SheetAt K G' x ys ss → R x G') :
    ∀ x dx, H1 x = none → H1 dx = none → dx ≠ x → sp_Sheet_init K [.ref x, .str (txtOf ys ss)] (upd (upd H1 dx (.own x)) x (.ins (He.ga K "Sheet") dx [])) (fun v H2 => v = .non ∧ R x H2) E' := by
  intro x dx nx ndx hne
  refine ⟨x, dx, upd_same, .inl ⟨_, rfl, ?_, S.bar, S.kit, fun n hs => ?_, fun ns' ss' hs G' eb hA => ?_⟩⟩
  · have := txtOf_len sh
    omega
  · rw [sh.scan] at hs
    cases hs
  · rw [sh.scan] at hs
    cases hs
    refine ⟨rfl, q x G' (fun b o hb => ?_) nx hA⟩
    have hx : b ≠ x := fun z => by rw [z, nx] at hb; cases hb
    exact eb b o hx (by rw [upd_ne hx, upd_ne (ne_of_none hb ndx)]; exact hb)
/-! ### long sheets -/
def sp_long_right (K : PySem.W.Frag) : Sp := fun vs H Q _ => vs = [] ∧ SF K ∧ ∀ H', Q (.bl true) H'
theorem len_long_right (h : sp_long_right K vs H Q E) : vs.length = 0 := by
  obtain ⟨rfl, _⟩ := h
  rfl
def N_long_right : List Str := ["_law_long", "_law_both"]
def t_long_right (K : PySem.W.Frag) (E : XK) : TS :=
  (tSeq (tAsg (yNew (He.ga K "Sheet") (sp_Sheet_init K) (fun cls d _ H => E cls d H) (tCons (tOp zAdd (tC (.str "top ")) (tOp zRepS (tC (.str "#")) (tC (.int 1000)))) tNil)) (gName 0))
    (tSeq (tAsg (tOp (zAddO (He.ga K "Sheet") (sp_Sheet_add K) E) (yVar 0) (yCMeth (He.ga K "Sheet") (sp_Sheet_blank K) (fun cls d _ H => E cls d H) (tC (.ref (He.ga K "Sheet"))) (tCons (tLst (tCons (tC (.str "top")) tNil)) (tCons (tC (.int 1000)) tNil)))) (gName 1))
    (tSeq (yIf (yOr (yTst (tOp zNe (yMeth (He.ga K "Sheet") "cells" (sp_Sheet_cells K) (fun cls d _ H => E cls d H) (yVar 1) (tCons (tC (.str "top")) tNil)) (tOp zAdd (tOp zRepS (tC (.str "#")) (tC (.int 1000))) (tOp zRepS (tC (.str ".")) (tC (.int 1000)))))) (yTst (tOp zNe (yFld (isC K ["Sheet"]) (tUn (zInvO (He.ga K "Sheet") (sp_Sheet_invert K)) (yVar 1)) "text") (tOp zAdd (tOp zAdd (tC (.str "top ")) (tOp zRepS (tC (.str ".")) (tC (.int 1000)))) (tOp zRepS (tC (.str "#")) (tC (.int 1000))))))) (tRet (tC (.bl false))) tNext)
    (tSeq (yIf (yTst (tOp (zNeD K) (tLst (tCons (yGetO (He.ga K "Sheet") (sp_Sheet_getitem K) (fun cls d _ H => E cls d H) (yVar 1) (tTup (tCons (tC (.str "top")) (tCons (tC (.int 999)) tNil)))) (tCons (yGetO (He.ga K "Sheet") (sp_Sheet_getitem K) (fun cls d _ H => E cls d H) (yVar 1) (tTup (tCons (tC (.str "top")) (tCons (tC (.int 1000)) tNil)))) (tCons (yGetO (He.ga K "Sheet") (sp_Sheet_getitem K) (fun cls d _ H => E cls d H) (yVar 1) (tTup (tCons (tC (.str "top")) (tCons (tC (.int 1999)) tNil)))) tNil)))) (tLst (tCons (tC (.bl true)) (tCons (tC (.bl false)) (tCons (tC (.bl false)) tNil)))))) (tRet (tC (.bl false))) tNext)
    (tRet (yAndV (tOp zEq (yFld (isC K ["Sheet"]) (yMeth (He.ga K "Sheet") "cut" (sp_Sheet_cut K) (fun cls d _ H => E cls d H) (yVar 1) (tCons (tLst (tCons (tC (.int 1999)) (tCons (tC (.int 0)) (tCons (tC (.int 1000)) tNil)))) tNil)) "text") (tC (.str "top #.."))) (tOp zEq (tCB (zLenO (He.ga K "Sheet") (sp_Sheet_len K)) (tCons (tOp (zAddO (He.ga K "Sheet") (sp_Sheet_add K) E) (yVar 0) (yVar 0)) tNil)) (tC (.int 2000)))))))))
def t_long_b (K : PySem.W.Frag) (E : XK) : TS :=
  (tSeq (yIf (yOr (yTst (tOp zNe (yMeth (He.ga K "Sheet") "cells" (sp_Sheet_cells K) (fun cls d _ H => E cls d H) (yVar 1) (tCons (tC (.str "top")) tNil)) (tOp zAdd (tOp zRepS (tC (.str "#")) (tC (.int 1000))) (tOp zRepS (tC (.str ".")) (tC (.int 1000)))))) (yTst (tOp zNe (yFld (isC K ["Sheet"]) (tUn (zInvO (He.ga K "Sheet") (sp_Sheet_invert K)) (yVar 1)) "text") (tOp zAdd (tOp zAdd (tC (.str "top ")) (tOp zRepS (tC (.str ".")) (tC (.int 1000)))) (tOp zRepS (tC (.str "#")) (tC (.int 1000))))))) (tRet (tC (.bl false))) tNext)
    (tSeq (yIf (yTst (tOp (zNeD K) (tLst (tCons (yGetO (He.ga K "Sheet") (sp_Sheet_getitem K) (fun cls d _ H => E cls d H) (yVar 1) (tTup (tCons (tC (.str "top")) (tCons (tC (.int 999)) tNil)))) (tCons (yGetO (He.ga K "Sheet") (sp_Sheet_getitem K) (fun cls d _ H => E cls d H) (yVar 1) (tTup (tCons (tC (.str "top")) (tCons (tC (.int 1000)) tNil)))) (tCons (yGetO (He.ga K "Sheet") (sp_Sheet_getitem K) (fun cls d _ H => E cls d H) (yVar 1) (tTup (tCons (tC (.str "top")) (tCons (tC (.int 1999)) tNil)))) tNil)))) (tLst (tCons (tC (.bl true)) (tCons (tC (.bl false)) (tCons (tC (.bl false)) tNil)))))) (tRet (tC (.bl false))) tNext)
    (tRet (yAndV (tOp zEq (yFld (isC K ["Sheet"]) (yMeth (He.ga K "Sheet") "cut" (sp_Sheet_cut K) (fun cls d _ H => E cls d H) (yVar 1) (tCons (tLst (tCons (tC (.int 1999)) (tCons (tC (.int 0)) (tCons (tC (.int 1000)) tNil)))) tNil)) "text") (tC (.str "top #.."))) (tOp zEq (tCB (zLenO (He.ga K "Sheet") (sp_Sheet_len K)) (tCons (tOp (zAddO (He.ga K "Sheet") (sp_Sheet_add K) E) (yVar 0) (yVar 0)) tNil)) (tC (.int 2000)))))))
def t_long_c (K : PySem.W.Frag) (E : XK) : TS :=
  (tSeq (yIf (yTst (tOp (zNeD K) (tLst (tCons (yGetO (He.ga K "Sheet") (sp_Sheet_getitem K) (fun cls d _ H => E cls d H) (yVar 1) (tTup (tCons (tC (.str "top")) (tCons (tC (.int 999)) tNil)))) (tCons (yGetO (He.ga K "Sheet") (sp_Sheet_getitem K) (fun cls d _ H => E cls d H) (yVar 1) (tTup (tCons (tC (.str "top")) (tCons (tC (.int 1000)) tNil)))) (tCons (yGetO (He.ga K "Sheet") (sp_Sheet_getitem K) (fun cls d _ H => E cls d H) (yVar 1) (tTup (tCons (tC (.str "top")) (tCons (tC (.int 1999)) tNil)))) tNil)))) (tLst (tCons (tC (.bl true)) (tCons (tC (.bl false)) (tCons (tC (.bl false)) tNil)))))) (tRet (tC (.bl false))) tNext)
    (tRet (yAndV (tOp zEq (yFld (isC K ["Sheet"]) (yMeth (He.ga K "Sheet") "cut" (sp_Sheet_cut K) (fun cls d _ H => E cls d H) (yVar 1) (tCons (tLst (tCons (tC (.int 1999)) (tCons (tC (.int 0)) (tCons (tC (.int 1000)) tNil)))) tNil)) "text") (tC (.str "top #.."))) (tOp zEq (tCB (zLenO (He.ga K "Sheet") (sp_Sheet_len K)) (tCons (tOp (zAddO (He.ga K "Sheet") (sp_Sheet_add K) E) (yVar 0) (yVar 0)) tNil)) (tC (.int 2000))))))
def t_long_d (K : PySem.W.Frag) (E : XK) : TS :=
  (tRet (yAndV (tOp zEq (yFld (isC K ["Sheet"]) (yMeth (He.ga K "Sheet") "cut" (sp_Sheet_cut K) (fun cls d _ H => E cls d H) (yVar 1) (tCons (tLst (tCons (tC (.int 1999)) (tCons (tC (.int 0)) (tCons (tC (.int 1000)) tNil)))) tNil)) "text") (tC (.str "top #.."))) (tOp zEq (tCB (zLenO (He.ga K "Sheet") (sp_Sheet_len K)) (tCons (tOp (zAddO (He.ga K "Sheet") (sp_Sheet_add K) E) (yVar 0) (yVar 0)) tNil)) (tC (.int 2000)))))
theorem lay_top : ∀ n ∈ (["top"] : List Str), okV (.str n) = true := by decide +kernel
theorem short_top : ∀ n ∈ (["top"] : List Str), n.length < 16777216 := by decide +kernel
theorem one_at {s t : Str} {i : Nat} (h : ([s] : List Str)[i]? = some t) : t = s := by
  have := List.mem_of_getElem? h
  simpa using this
theorem long_d {G : Hp} {a b : Addr} (S : SF K) (F : HPs hh pp) (hA : SheetAt K G a ["top"] [hh]) (hB : SheetAt K G b ["top"] [(hh ++ pp)]) (q : ∀ H', Q (.bl true) H') : t_long_d K E (dEnd Q) [some (.ref a), some (.ref b)] G := by
  obtain ⟨dxb, _, _, _, eb, _⟩ := id hB
  refine ⟨dxb, _, eb, rfl, (show 3 ≤ sizeLine by decide), fun l nl => ?_⟩
  have e1 : Ext G (upd G l (.lst [.int 1999, .int 0, .int 1000])) := Ext.new nl
  have none3 : ([1999, 0, 1000] : List Int).find? (offS 2000) = none := by decide
  refine ⟨b, l, ["top"], [(hh ++ pp)], [1999, 0, 1000], 2000, rfl, hB.ext e1, ok_top (by rw [F.len]; decide), by decide, fun s hs => by rw [show s = (hh ++ pp) by simpa using hs]; exact F.len, by decide, .inl upd_same, by decide, S.rk, fun c hc => (by rw [none3] at hc; cases hc), fun (z : ([1999, 0, 1000] : List Int) = []) => absurd z (by decide), fun _ _ ks pw mem r G2 e2 nr hR => ?_⟩
  obtain rfl := sorted_three pw mem
  obtain ⟨dxr, _, _, _, er, _⟩ := id hR
  have ex : txtOf ["top"] ([(hh ++ pp)].map (pickI [0, 1000, 1999])) = "top #.." := by
    show txtOf ["top"] [pickI [0, 1000, 1999] (hh ++ pp)] = _
    rw [one_txt]
    unfold pickI
    rw [show Txt.join "" _ = Str.join "" _ from StrLaws.glued_eq_join _ _]
    have g0 : (hh ++ pp).cps.getD 0 0 = 35 := F.is (by decide) rfl
    have g1 : (hh ++ pp).cps.getD 1000 0 = 46 := F.is (by decide) rfl
    have g2 : (hh ++ pp).cps.getD 1999 0 = 46 := F.is (by decide) rfl
    show "top " ++ (Str.join "" [(⟨#[(hh ++ pp).cps.getD 0 0]⟩ : Str), ⟨#[(hh ++ pp).cps.getD 1000 0]⟩, ⟨#[(hh ++ pp).cps.getD 1999 0]⟩]) = _
    rw [g0, g1, g2]
    decide +kernel
  refine ⟨_, dxr, _, _, er, rfl, rfl, ?_⟩
  refine brT (decide_eq_true ex) ?_
  have hA2 := (hA.ext e1).ext e2
  obtain ⟨dxa, _, _, _, ea, _⟩ := id hA2
  have hl : hh.length ≤ 400000 := by rw [F.h1000]; decide
  refine ⟨dxa, _, dxa, _, ea, ea, a, a, ["top"], [hh], ["top"], [hh], rfl, hA2, hA2, ok_top (by omega), ok_top (by omega), fun s hs => by rw [show s = hh by simpa using hs]; exact hl, fun s hs => by rw [show s = hh by simpa using hs]; exact hl, lay_top, lay_top, S.rk, fun z => absurd rfl z, fun _ c G3 e3 nc hC => ?_⟩
  obtain ⟨dxc, _, _, _, ec, _⟩ := id hC
  have hlc : (hh ++ hh).length = 2000 := by rw [Str.length_append, F.h1000]
  refine ⟨dxc, _, ec, c, ["top"], [hh ++ hh], hh ++ hh, rfl, hC, rfl, by rw [hlc]; decide, ⟨by omega, by rw [hlc]; decide⟩, ?_⟩
  show Q (.bl (decide (((hh ++ hh).length : Int) = 2000))) G3
  rw [hlc]
  exact q G3
theorem long_c {G : Hp} {a b : Addr} (S : SF K) (F : HPs hh pp) (hA : SheetAt K G a ["top"] [hh]) (hB : SheetAt K G b ["top"] [(hh ++ pp)]) (q : ∀ H', Q (.bl true) H') : t_long_c K E (dEnd Q) [some (.ref a), some (.ref b)] G := by
  have one : ∀ (k : Nat) (G1 : Hp) (Q1 : VK), k < 2000 → Ext G G1 → (∀ G2, Ext G1 G2 → Q1 (.bl (decide (k < 1000))) G2) → yGetO (He.ga K "Sheet") (sp_Sheet_getitem K) (fun cls d _ H => E cls d H) (yVar 1) (tTup (tCons (tC (.str "top")) (tCons (tC (.int (k : Nat))) tNil))) [some (.ref a), some (.ref b)] G1 Q1 := fun k G1 Q1 hk e1 q1 => by
    refine ⟨(show 2 ≤ sizeLine by decide), fun r nr => ?_⟩
    have e2 : Ext G1 (upd G1 r (.tup [.str "top", .int (k : Nat)])) := Ext.new nr
    have hB2 := (hB.ext e1).ext e2
    obtain ⟨dxb, _, _, _, eb, _⟩ := id hB2
    refine ⟨dxb, _, eb, b, r, ["top"], [(hh ++ pp)], 2000, "top", k, rfl, hB2, SqT.of upd_same, by decide, rfl, by decide, fun s hs => by rw [show s = (hh ++ pp) by simpa using hs]; exact F.len, by decide, by decide +kernel, fun z => absurd (by simp) z, fun _ z => absurd ⟨by omega, by omega⟩ z, fun i s c hi hs h0 hc => ?_⟩
    rw [one_at hs, Int.toNat_natCast] at hc
    have ec := F.at hc
    have eq : decide (c = 35) = decide (k < 1000) := by
      rw [ec]
      by_cases hk1 : k < 1000
      · simp [hk1]
      · simp [hk1]
    rw [eq]
    exact q1 _ e2
  refine one 999 G _ (by decide) (Ext.refl G) fun G1 e1 => one 1000 G1 _ (by decide) e1 fun G2 e2 => one 1999 G2 _ (by decide) (e1.trans e2) fun G3 e3 => ⟨(show 3 ≤ sizeLine by decide), fun u nu => ⟨(show 3 ≤ sizeLine by decide), fun v nv => ?_⟩⟩
  have e4 : Ext G3 (upd G3 u (.lst [.bl (decide (999 < 1000)), .bl (decide (1000 < 1000)), .bl (decide (1999 < 1000))])) := Ext.new nu
  have e5 : Ext (upd G3 u (.lst [.bl (decide (999 < 1000)), .bl (decide (1000 < 1000)), .bl (decide (1999 < 1000))])) _ := Ext.new nv (o := .lst [.bl true, .bl false, .bl false])
  refine ⟨.list [.bool true, .bool false, .bool false], .list [.bool true, .bool false, .bool false], .lst (SqL.of (e5 _ _ upd_same)) (.cons (.bl _) (.cons (.bl _) (.cons (.bl _) .nil))), .lst (SqL.of upd_same) (.cons (.bl _) (.cons (.bl _) (.cons (.bl _) .nil))), by decide, by decide, brF (by decide) ?_⟩
  have ee := ((e1.trans e2).trans e3).trans (e4.trans e5)
  exact long_d S F (hA.ext ee) (hB.ext ee) q
theorem long_b {G : Hp} {a b : Addr} (S : SF K) (F : HPs hh pp) (hA : SheetAt K G a ["top"] [hh]) (hB : SheetAt K G b ["top"] [(hh ++ pp)]) (q : ∀ H', Q (.bl true) H') : t_long_b K E (dEnd Q) [some (.ref a), some (.ref b)] G := by
  obtain ⟨dxb, _, _, _, eb, _⟩ := id hB
  have c100 : (("#" : Str)).length ≤ 100 := by decide
  refine ⟨dxb, _, eb, rfl, b, ["top"], [(hh ++ pp)], "top", rfl, hB, by decide, rfl, by decide +kernel, fun z => absurd (by simp) z, fun i s hi hs => ?_⟩
  rw [one_at hs]
  refine ⟨by decide, by decide, c100, by decide, by decide, c100, ?_⟩
  rw [F.eh, F.ep]
  refine ⟨by rw [F.h1000, F.p1000]; decide, brF (ne_of rfl) ?_⟩
  refine ⟨dxb, _, eb, b, ["top"], [(hh ++ pp)], rfl, hB, ok_top (by rw [F.len]; decide), S.rk, fun r G1 e1 nr hR => ?_⟩
  obtain ⟨dxr, _, _, _, er, _⟩ := id hR
  refine ⟨_, dxr, _, _, er, rfl, rfl, by decide, by decide, c100, ?_⟩
  rw [F.ep]
  refine ⟨by rw [F.p1000]; decide, by decide, by decide, c100, ?_⟩
  rw [F.eh]
  refine ⟨by rw [Str.length_append, F.p1000, F.h1000]; decide, ?_⟩
  have et : txtOf ["top"] ([(hh ++ pp)].map revS) = "top " ++ pp ++ hh := by
    show txtOf ["top"] [revS (hh ++ pp)] = _
    rw [one_txt, rev_cat, F.rh, F.rp]
    apply str_eq
    rw [cat_list, cat_list, cat_list, cat_list, List.append_assoc]
  refine brF (ne_of et) ?_
  exact long_c S F (hA.ext e1) (hB.ext e1) q
theorem pure_long_right (h : sp_long_right K vs H Q E) : t_long_right K E (dEnd Q) (start N_long_right vs) H := by
  obtain ⟨rfl, S, q⟩ := h
  have c100 : (("#" : Str)).length ≤ 100 := by decide
  obtain ⟨hh, pp, F⟩ : ∃ hh pp, HPs hh pp := ⟨_, _, rfl, rfl, repS_list (ch := 35), repS_list (ch := 46)⟩
  refine ⟨by decide, by decide, c100, ?_⟩
  rw [F.eh]
  refine ⟨by rw [F.h1000]; decide, ?_⟩
  rw [← one_txt]
  refine make_sheet S F.sh (by decide) fun a G1 e1 na hA => ?_
  refine ⟨rfl, (show 1 ≤ sizeLine by decide), fun l nl => ?_⟩
  have e2 : Ext G1 (upd G1 l (.lst [.str "top"])) := Ext.new nl
  have good : wrongAt 0 [] (["top"] : List Str) = none := by decide +kernel
  refine ⟨l, ["top"], 1000, rfl, .inl upd_same, short_top, S.bar, S.rk, fun i z => by rw [good] at z; (cases z), fun _ z => absurd ⟨by decide, by decide⟩ z, fun _ _ _ b G2 e3 nb hB => ?_⟩
  have hB : SheetAt K G2 b ["top"] [pp] := by
    have z : SheetAt K G2 b ["top"] [repS "." (1000 : Int).toNat] := hB
    rw [F.ep] at z
    exact z
  have hA2 := (hA.ext e2).ext e3
  obtain ⟨dxa, _, _, _, ea, _⟩ := id hA2
  obtain ⟨dxb, _, _, _, eb, _⟩ := id hB
  have l1 : hh.length ≤ 400000 := by rw [F.h1000]; decide
  have l2 : pp.length ≤ 400000 := by rw [F.p1000]; decide
  refine ⟨dxa, _, dxb, _, ea, eb, a, b, ["top"], [hh], ["top"], [pp], rfl, hA2, hB, ok_top (by omega), ok_top (by omega), fun s hs => by rw [show s = hh by simpa using hs]; exact l1, fun s hs => by rw [show s = pp by simpa using hs]; exact l2, lay_top, lay_top, S.rk, fun z => absurd rfl z, fun _ c G3 e4 nc hC => ?_⟩
  exact long_b S F (hA2.ext e4) hC q
end
end Eb

namespace Eb
open PySem PySem.Spec PyProof.Rows L2
/-! ### the law's columns -/
theorem rev_rev (s : Str) : revS (revS s) = s := by
  apply str_eq
  show (s.cps.toList.reverse.toArray).toList.reverse.toArray.toList = _
  simp
theorem row_list (cols : List (List Int)) (k : Nat) : (rowTxt cols k).cps.toList = cols.map fun bs => cellC (bs.getD k 0) := rfl
theorem row_rev (cols : List (List Int)) (k : Nat) : revS (rowTxt cols k) = rowTxt cols.reverse k := by
  apply str_eq
  show (rowTxt cols k).cps.toList.reverse.toArray.toList = _
  rw [row_list, row_list, List.map_reverse]
theorem row_cat (c1 c2 : List (List Int)) (k : Nat) : rowTxt c1 k ++ rowTxt c2 k = rowTxt (c1 ++ c2) k := by
  apply str_eq
  rw [cat_list, row_list, row_list, row_list, List.map_append]
theorem rows_rev (cols : List (List Int)) (n : Nat) : (rowsOf cols n).map revS = rowsOf cols.reverse n := by
  unfold rowsOf
  rw [List.map_map]
  exact List.map_congr_left fun k _ => row_rev cols k
theorem rows_cat (c1 c2 : List (List Int)) (n : Nat) : List.zipWith (· ++ ·) (rowsOf c1 n) (rowsOf c2 n) = rowsOf (c1 ++ c2) n := by
  unfold rowsOf
  rw [List.zipWith_map, List.zipWith_self]
  exact List.map_congr_left fun k _ => row_cat c1 c2 k
theorem join_chars (cs : List Nat) : Txt.join "" (cs.map fun c => (⟨#[c]⟩ : Str)) = ⟨cs.toArray⟩ := join_ones cs
theorem row_pick {cols : List (List Int)} {ks : List Int} (h : ∀ k ∈ ks, 0 ≤ k ∧ k < (cols.length : Int)) (j : Nat) : pickI ks (rowTxt cols j) = rowTxt (colsAt cols ks) j := by
  unfold pickI
  have e : (ks.map fun (k : Int) => (⟨#[(rowTxt cols j).cps.getD k.toNat 0]⟩ : Str)) = (ks.map fun (k : Int) => (rowTxt cols j).cps.getD k.toNat 0).map fun c => (⟨#[c]⟩ : Str) := by
    rw [List.map_map]
    rfl
  rw [e, join_chars]
  apply str_eq
  rw [row_list]
  unfold colsAt
  rw [List.map_map]
  refine List.map_congr_left fun k hk => ?_
  obtain ⟨k0, k1⟩ := h k hk
  have lt : k.toNat < cols.length := by omega
  show (rowTxt cols j).cps.getD k.toNat 0 = cellC ((cols.getD k.toNat []).getD j 0)
  rw [Array.getD_eq_getD_getElem?, ← Array.getElem?_toList, row_list, List.getElem?_map, List.getElem?_eq_getElem lt, List.getD_eq_getElem?_getD (l := cols), List.getElem?_eq_getElem lt]
  rfl
theorem rows_pick {cols : List (List Int)} {ks : List Int} (h : ∀ k ∈ ks, 0 ≤ k ∧ k < (cols.length : Int)) (n : Nat) : (rowsOf cols n).map (pickI ks) = rowsOf (colsAt cols ks) n := by
  unfold rowsOf
  rw [List.map_map]
  exact List.map_congr_left fun j _ => row_pick h j
theorem sorted_same : ∀ {xs ys : List Int}, xs.Pairwise (· < ·) → ys.Pairwise (· < ·) → (∀ k, k ∈ xs ↔ k ∈ ys) → xs = ys
  | [], [], _, _, _ => rfl
  | [], y :: ys, _, _, h => by
    have := (h y).mpr (List.mem_cons_self ..)
    cases this
  | x :: xs, [], _, _, h => by
    have := (h x).mp (List.mem_cons_self ..)
    cases this
  | x :: xs, y :: ys, px, py, h => by
    obtain ⟨px1, px2⟩ := List.pairwise_cons.mp px
    obtain ⟨py1, py2⟩ := List.pairwise_cons.mp py
    have exy : x = y := by
      have h1 := (h x).mp (List.mem_cons_self ..)
      have h2 := (h y).mpr (List.mem_cons_self ..)
      rcases List.mem_cons.mp h1 with e | e
      · exact e
      · rcases List.mem_cons.mp h2 with e2 | e2
        · exact e2.symm
        · have a := px1 y e2
          have b := py1 x e
          omega
    subst exy
    rw [sorted_same px2 py2 fun k => ⟨fun hk => by
      rcases List.mem_cons.mp ((h k).mp (List.mem_cons_of_mem _ hk)) with e | e
      · have := px1 k hk
        omega
      · exact e, fun hk => by
      rcases List.mem_cons.mp ((h k).mpr (List.mem_cons_of_mem _ hk)) with e | e
      · have := py1 k hk
        omega
      · exact e⟩]
def upto (m : Nat) : List Int := (List.range m).map fun k => ((k : Nat) : Int)
theorem upto_sorted (m : Nat) : (upto m).Pairwise (· < ·) := by
  unfold upto
  rw [List.pairwise_map]
  exact (List.pairwise_lt_range (n := m)).imp fun {a b} h => by omega
theorem upto_mem {m : Nat} {k : Int} : k ∈ upto m ↔ 0 ≤ k ∧ k < (m : Int) := by
  unfold upto
  rw [List.mem_map]
  constructor
  · rintro ⟨j, hj, rfl⟩
    have := List.mem_range.mp hj
    omega
  · rintro ⟨h0, h1⟩
    exact ⟨k.toNat, List.mem_range.mpr (by omega), by omega⟩
theorem colsAt_all (cols : List (List Int)) : colsAt cols (upto cols.length) = cols := by
  apply List.ext_getElem
  · simp [colsAt, upto]
  · intro i h1 h2
    simp [colsAt, upto, List.getD_eq_getElem?_getD, h2]
theorem colOk_rev {n : Nat} {cols : List (List Int)} (h : ColOk n cols) : ColOk n cols.reverse := fun bs hb => h bs (List.mem_reverse.mp hb)
theorem colOk_cat {n : Nat} {c1 c2 : List (List Int)} (h1 : ColOk n c1) (h2 : ColOk n c2) : ColOk n (c1 ++ c2) := fun bs hb => (List.mem_append.mp hb).elim (h1 bs) (h2 bs)
theorem colOk_at {n : Nat} {cols : List (List Int)} {ks : List Int} (h : ColOk n cols) (hk : ∀ k ∈ ks, 0 ≤ k ∧ k < (cols.length : Int)) : ColOk n (colsAt cols ks) := fun bs hb => by
  obtain ⟨k, hk1, rfl⟩ := List.mem_map.mp hb
  obtain ⟨k0, k1⟩ := hk k hk1
  have lt : k.toNat < cols.length := by omega
  refine h _ ?_
  rw [List.getD_eq_getElem?_getD, List.getElem?_eq_getElem lt]
  exact List.getElem_mem lt
/-! ### where the law stands -/
/-- drawn things -/
structure LF (ys : List Str) (cols cols2 : List (List Int)) (m m2 : Nat) : Prop where
  nd : ys.Nodup
  nm : ∀ y ∈ ys, y ∈ NAMES
  one : 1 ≤ ys.length
  three : ys.length ≤ 3
  m1 : 1 ≤ m
  m3 : m ≤ 40
  n1 : 1 ≤ m2
  n3 : m2 ≤ 12
  len : cols.length = m
  len2 : cols2.length = m2
  ok : ColOk ys.length cols
  ok2 : ColOk ys.length cols2
section
variable {ys : List Str} {cols cols2 : List (List Int)} {m m2 : Nat} (f : LF ys cols cols2 m m2)
include f
theorem LF.short : ∀ y ∈ ys, y.length ≤ 12 := fun y hy => nameOk_12 (names_ok' y (f.nm y hy))
theorem LF.lay : ∀ y ∈ ys, okV (.str y) = true := fun y hy => okS_lay (names_good y (f.nm y hy)).2
theorem LF.pf {c : List (List Int)} (h : ColOk ys.length c) (h1 : 1 ≤ c.length) (h2 : c.length ≤ 400000) : PF ys c := ⟨f.nd, f.one, f.three, f.short, f.lay, h, h1, h2⟩
theorem LF.rok {c : List (List Int)} (h2 : c.length ≤ 400000) : RowsOk ys (rowsOf c ys.length) := ⟨len_rowsOf.symm, f.three, f.short, fun s hs => by
  obtain ⟨k, _, rfl⟩ := List.mem_map.mp hs
  rw [rowTxt_len]
  omega⟩
theorem LF.rlen {c : List (List Int)} : ∀ s ∈ rowsOf c ys.length, s.length = c.length := fun s hs => by
  obtain ⟨k, _, rfl⟩ := List.mem_map.mp hs
  exact rowTxt_len c k
theorem LF.sh {c : List (List Int)} (h : 1 ≤ c.length) (h2 : c.length ≤ 1000) : ShOk ys (rowsOf c ys.length) c.length := shOk_plain f.nd (fun y hy => names_ok' y (f.nm y hy)) f.one f.three h h2
end
structure LA (K : PySem.W.Frag) (G : Hp) (p c l d d2 a a2 : Addr) (n : Nat) (ys : List Str) (cols cols2 : List (List Int)) : Prop where
  pen : PenAt G p c n
  tab : LamX.Tabs (TB K) G
  trk : G l = some (.lst (ys.map V.str))
  pl : SheetC G d ys cols
  pl2 : SheetC G d2 ys cols2
  sh : SheetAt K G a ys (rowsOf cols ys.length)
  sh2 : SheetAt K G a2 ys (rowsOf cols2 ys.length)
section
variable {K : PySem.W.Frag} {G G' : Hp} {p c l d d2 a a2 : Addr} {n n' m m2 : Nat} {ys : List Str} {cols cols2 : List (List Int)}
theorem LA.kp (h : LA K G p c l d d2 a a2 n ys cols cols2) (f : LF ys cols cols2 m m2) (k : Kp G G') (P : PenAt G' p c n') : LA K G' p c l d d2 a a2 n' ys cols cols2 := by
  have nn : ∀ y ∈ ys, nameOk y = true := fun y hy => names_ok' y (f.nm y hy)
  exact ⟨P, tabs_kp h.tab k, k.lst h.trk, h.pl.kp k, h.pl2.kp k, h.sh.kp k f.nd len_rowsOf.symm nn, h.sh2.kp k f.nd len_rowsOf.symm nn⟩
theorem LA.ext (h : LA K G p c l d d2 a a2 n ys cols cols2) (e : Ext G G') : LA K G' p c l d d2 a a2 n ys cols cols2 := ⟨h.pen.ext e, h.tab.ext e, e _ _ h.trk, h.pl.ext e, h.pl2.ext e, h.sh.ext e, h.sh2.ext e⟩
theorem LA.lam (h : LA K G p c l d d2 a a2 n ys cols cols2) (e : LamX.ExtN G G') (t : LamX.Tabs (TB K) G') : LA K G' p c l d d2 a a2 n ys cols cols2 := ⟨pen_extN h.pen e, t, e _ _ h.trk (by intro _ z; cases z), h.pl.extN e, h.pl2.extN e, h.sh.extN e, h.sh2.extN e⟩
theorem LA.mono (h : LA K G p c l d d2 a a2 n ys cols cols2) (k : n ≤ n') : LA K G p c l d d2 a a2 n' ys cols cols2 := ⟨h.pen.mono k, h.tab, h.trk, h.pl, h.pl2, h.sh, h.sh2⟩
end
end Eb

namespace Eb
open PySem PySem.Spec PyProof.Rows L2
/-- the law: True of each script -/
def sp_law (K : PySem.W.Frag) : Sp := fun vs H Q _ => ∃ (s : Addr) (ns : List Int), vs = [.ref s] ∧ SqL K H s (ns.map V.int) ∧ LamX.Tabs (TB K) H ∧ SF K ∧ ∀ H', Q (.bl true) H'
section
variable {K : PySem.W.Frag} {H : Hp} {Q : VK} {E : XK}
def N_law : List Str := ["_law_script", "_law_pen", "_law_turn", "_law_tracks", "_law_many", "_law_more", "_law_plain", "_law_other", "_law_made", "_law_second", "_law_columns", "_law_handed", "_law_at", "_law_far", "_law_joined", "_law_strange", "_law_k"]
def t_law (K : PySem.W.Frag) (E : XK) : TS :=
  (tSeq (tAsg (yCall (sp_begun_pen K) E0 (tCons (yVar 0) tNil)) (gName 1))
    (tSeq (yFor (jRng (tC (.int 6))) (gName 2) (tSeq (tAsg (yCall (sp_new_tracks K) E0 (tCons (yVar 1) (tCons (tC (.int 3)) tNil))) (gName 3))
    (tSeq (tAsg (tTup (tCons (tOp zAdd (tC (.int 1)) (yCall (sp_draw K) E0 (tCons (yVar 1) (tCons (tC (.int 40)) tNil)))) (tCons (tOp zAdd (tC (.int 1)) (yCall (sp_draw K) E0 (tCons (yVar 1) (tCons (tC (.int 12)) tNil)))) tNil))) (gTup K 2 (gCons (gName 4) (gCons (gName 5) gNil))))
    (tSeq (yPar 6 7 (tCons (yCall (sp_new_sheet K) E0 (tCons (yVar 1) (tCons (yVar 3) (tCons (yVar 4) tNil)))) (tCons (yCall (sp_new_sheet K) E0 (tCons (yVar 1) (tCons (yVar 3) (tCons (yVar 5) tNil)))) tNil)))
    (tSeq (tAsg (tTup (tCons (yNew (He.ga K "Sheet") (sp_Sheet_init K) W0 (tCons (yCall (sp_sheet_text K) E0 (tCons (yVar 6) tNil)) tNil)) (tCons (yNew (He.ga K "Sheet") (sp_Sheet_init K) W0 (tCons (yCall (sp_sheet_text K) E0 (tCons (yVar 7) tNil)) tNil)) tNil))) (gTup K 2 (gCons (gName 8) (gCons (gName 9) gNil))))
    (tSeq (tAsg (yLc (jRng (tOp zAdd (tC (.int 1)) (yCall (sp_draw K) E0 (tCons (yVar 1) (tCons (tC (.int 9)) tNil))))) (gName 16) tYes (yCall (sp_draw K) E0 (tCons (yVar 1) (tCons (yVar 4) tNil))) [16]) (gName 10))
    (tSeq (tAsg (tCB (zList K) (tCons (yVar 10) tNil)) (gName 11))
    (tSeq (yIf (yOr (yNot (yTst (yCall (sp_shows K) E0 (tCons (yMeth (He.ga K "Sheet") "cut" (sp_Sheet_cut K) W0 (yVar 8) (tCons (yVar 11) tNil)) (tCons (yCall (sp_cut_plain K) E0 (tCons (yVar 6) (tCons (yVar 10) tNil))) tNil))))) (yTst (tOp (zNeD K) (yVar 11) (yVar 10)))) (tRet (tC (.bl false))) tNext)
    (tSeq (yIf (yOr (yTst (tOp (zNeO (He.ga K "Sheet") (sp_Sheet_eq K)) (yMeth (He.ga K "Sheet") "cut" (sp_Sheet_cut K) W0 (yVar 8) (tCons (tCB (zTuple K) (tCons (yVar 10) tNil)) tNil)) (yMeth (He.ga K "Sheet") "cut" (sp_Sheet_cut K) W0 (yVar 8) (tCons (tCB (zSortI K) (tCons (yVar 10) tNil)) tNil)))) (yTst (tOp (zNeO (He.ga K "Sheet") (sp_Sheet_eq K)) (yMeth (He.ga K "Sheet") "cut" (sp_Sheet_cut K) W0 (yVar 8) (tCons (yLRng (yVar 4)) tNil)) (yVar 8)))) (tRet (tC (.bl false))) tNext)
    (tSeq (tAsg (tTup (tCons (yCall (sp_draw K) E0 (tCons (yVar 1) (tCons (tOp zAdd (tCB (zLen K) (tCons (yVar 10) tNil)) (tC (.int 1))) tNil))) (tCons (yCall (sp_pick K) E0 (tCons (yVar 1) (tCons (tLst (tCons (tUn zNeg (tC (.int 1))) (tCons (yVar 4) (tCons (tOp zPow (tC (.int 10)) (tC (.int 20))) (tCons (tUn zNeg (yVar 4)) tNil))))) tNil))) tNil))) (gTup K 2 (gCons (gName 12) (gCons (gName 13) gNil))))
    (tSeq (yIf (yTst (tOp (zNeD K) (yLam (TB K) (TT_refused K) (fun EL => (yMeth (He.ga K "Sheet") "cut" (sp_Sheet_cut K) (fun cls d _ H => EL cls d H) (yVar 8) (tCons (tOp zCatL (tOp zCatL (tSl (zSlL K) (yVar 10) tNoPart (tPart (yVar 12))) (tLst (tCons (yVar 13) (tCons (tUn zNeg (tC (.int 9))) tNil)))) (tSl (zSlL K) (yVar 10) (tPart (yVar 12)) tNoPart)) tNil)))) (tTup (tCons (tC (.str "column")) (tCons (yVar 13) (tCons (tC (.bl true)) tNil)))))) (tRet (tC (.bl false))) tNext)
    (tSeq (yIf (yTst (tOp (zNeD K) (yLam (TB K) (TT_refused K) (fun EL => (yMeth (He.ga K "Sheet") "cut" (sp_Sheet_cut K) (fun cls d _ H => EL cls d H) (yVar 8) (tCons (tLst tNil) tNil)))) (tTup (tCons (tC (.str "count")) (tCons (tC (.int 0)) (tCons (tC (.bl true)) tNil)))))) (tRet (tC (.bl false))) tNext)
    (tSeq (yIf (yOr (yNot (yTst (yCall (sp_shows K) E0 (tCons (tUn (zInvO (He.ga K "Sheet") (sp_Sheet_invert K)) (yVar 8)) (tCons (tDisp (((tC (.str "tracks")), (yVar 3)) :: (((tC (.str "cols")), (yStepL K (yDGet (yVar 6) (tC (.str "cols"))) (tUn zNeg (tC (.int 1))))) :: []))) tNil))))) (yTst (tOp (zNeO (He.ga K "Sheet") (sp_Sheet_eq K)) (tUn (zInvO (He.ga K "Sheet") (sp_Sheet_invert K)) (tUn (zInvO (He.ga K "Sheet") (sp_Sheet_invert K)) (yVar 8))) (yVar 8)))) (tRet (tC (.bl false))) tNext)
    (tSeq (tAsg (tDisp (((tC (.str "tracks")), (yVar 3)) :: (((tC (.str "cols")), (tOp zCatL (yDGet (yVar 6) (tC (.str "cols"))) (yDGet (yVar 7) (tC (.str "cols"))))) :: []))) (gName 14))
    (tSeq (yIf (yOr (yNot (yTst (yCall (sp_shows K) E0 (tCons (tOp (zAddO (He.ga K "Sheet") (sp_Sheet_add K) E0) (yVar 8) (yVar 9)) (tCons (yVar 14) tNil))))) (yTst (tOp (zNeO (He.ga K "Sheet") (sp_Sheet_eq K)) (tUn (zInvO (He.ga K "Sheet") (sp_Sheet_invert K)) (tOp (zAddO (He.ga K "Sheet") (sp_Sheet_add K) E0) (yVar 8) (yVar 9))) (tOp (zAddO (He.ga K "Sheet") (sp_Sheet_add K) E0) (tUn (zInvO (He.ga K "Sheet") (sp_Sheet_invert K)) (yVar 9)) (tUn (zInvO (He.ga K "Sheet") (sp_Sheet_invert K)) (yVar 8)))))) (tRet (tC (.bl false))) tNext)
    (tSeq (yIf (yOr (yTst (tOp zNe (tCB (zLenO (He.ga K "Sheet") (sp_Sheet_len K)) (tCons (tOp (zAddO (He.ga K "Sheet") (sp_Sheet_add K) E0) (yVar 8) (yVar 9)) tNil)) (tOp zAdd (yVar 4) (yVar 5)))) (yTst (tOp zNe (yFld (isC K ["Sheet"]) (yVar 8) "text") (yCall (sp_sheet_text K) E0 (tCons (yVar 6) tNil))))) (tRet (tC (.bl false))) tNext)
    (tSeq (tAsg (yNew (He.ga K "Sheet") (sp_Sheet_init K) W0 (tCons (yCall (sp_sheet_text K) E0 (tCons (tDisp (((tC (.str "tracks")), (yIfE (yTst (tOp zGt (tCB (zLen K) (tCons (yVar 3) tNil)) (tC (.int 1)))) (yStepL K (yVar 3) (tUn zNeg (tC (.int 1)))) (tLst (tCons (tC (.str "zz")) tNil)))) :: (((tC (.str "cols")), (yDGet (yVar 6) (tC (.str "cols")))) :: []))) tNil)) tNil)) (gName 15))
    (yIf (yOr (yTst (tOp (zNeD K) (yLam (TB K) (TT_refused K) (fun EL => (tOp (zAddO (He.ga K "Sheet") (sp_Sheet_add K) EL) (yVar 8) (yVar 15)))) (tTup (tCons (tC (.str "other")) (tCons (tC .non) (tCons (tC (.bl true)) tNil)))))) (yNot (yTst (yCall (sp_blank_right K) E0 (tCons (yVar 1) (tCons (yVar 3) tNil)))))) (tRet (tC (.bl false))) tNext))))))))))))))))))
    (tRet (yCall (sp_long_right K) E0 tNil))))
def t_law_4 (K : PySem.W.Frag) (E : XK) : TS :=
  (tSeq (tAsg (yLc (jRng (tOp zAdd (tC (.int 1)) (yCall (sp_draw K) E0 (tCons (yVar 1) (tCons (tC (.int 9)) tNil))))) (gName 16) tYes (yCall (sp_draw K) E0 (tCons (yVar 1) (tCons (yVar 4) tNil))) [16]) (gName 10))
    (tSeq (tAsg (tCB (zList K) (tCons (yVar 10) tNil)) (gName 11))
    (tSeq (yIf (yOr (yNot (yTst (yCall (sp_shows K) E0 (tCons (yMeth (He.ga K "Sheet") "cut" (sp_Sheet_cut K) W0 (yVar 8) (tCons (yVar 11) tNil)) (tCons (yCall (sp_cut_plain K) E0 (tCons (yVar 6) (tCons (yVar 10) tNil))) tNil))))) (yTst (tOp (zNeD K) (yVar 11) (yVar 10)))) (tRet (tC (.bl false))) tNext)
    (tSeq (yIf (yOr (yTst (tOp (zNeO (He.ga K "Sheet") (sp_Sheet_eq K)) (yMeth (He.ga K "Sheet") "cut" (sp_Sheet_cut K) W0 (yVar 8) (tCons (tCB (zTuple K) (tCons (yVar 10) tNil)) tNil)) (yMeth (He.ga K "Sheet") "cut" (sp_Sheet_cut K) W0 (yVar 8) (tCons (tCB (zSortI K) (tCons (yVar 10) tNil)) tNil)))) (yTst (tOp (zNeO (He.ga K "Sheet") (sp_Sheet_eq K)) (yMeth (He.ga K "Sheet") "cut" (sp_Sheet_cut K) W0 (yVar 8) (tCons (yLRng (yVar 4)) tNil)) (yVar 8)))) (tRet (tC (.bl false))) tNext)
    (tSeq (tAsg (tTup (tCons (yCall (sp_draw K) E0 (tCons (yVar 1) (tCons (tOp zAdd (tCB (zLen K) (tCons (yVar 10) tNil)) (tC (.int 1))) tNil))) (tCons (yCall (sp_pick K) E0 (tCons (yVar 1) (tCons (tLst (tCons (tUn zNeg (tC (.int 1))) (tCons (yVar 4) (tCons (tOp zPow (tC (.int 10)) (tC (.int 20))) (tCons (tUn zNeg (yVar 4)) tNil))))) tNil))) tNil))) (gTup K 2 (gCons (gName 12) (gCons (gName 13) gNil))))
    (tSeq (yIf (yTst (tOp (zNeD K) (yLam (TB K) (TT_refused K) (fun EL => (yMeth (He.ga K "Sheet") "cut" (sp_Sheet_cut K) (fun cls d _ H => EL cls d H) (yVar 8) (tCons (tOp zCatL (tOp zCatL (tSl (zSlL K) (yVar 10) tNoPart (tPart (yVar 12))) (tLst (tCons (yVar 13) (tCons (tUn zNeg (tC (.int 9))) tNil)))) (tSl (zSlL K) (yVar 10) (tPart (yVar 12)) tNoPart)) tNil)))) (tTup (tCons (tC (.str "column")) (tCons (yVar 13) (tCons (tC (.bl true)) tNil)))))) (tRet (tC (.bl false))) tNext)
    (tSeq (yIf (yTst (tOp (zNeD K) (yLam (TB K) (TT_refused K) (fun EL => (yMeth (He.ga K "Sheet") "cut" (sp_Sheet_cut K) (fun cls d _ H => EL cls d H) (yVar 8) (tCons (tLst tNil) tNil)))) (tTup (tCons (tC (.str "count")) (tCons (tC (.int 0)) (tCons (tC (.bl true)) tNil)))))) (tRet (tC (.bl false))) tNext)
    (tSeq (yIf (yOr (yNot (yTst (yCall (sp_shows K) E0 (tCons (tUn (zInvO (He.ga K "Sheet") (sp_Sheet_invert K)) (yVar 8)) (tCons (tDisp (((tC (.str "tracks")), (yVar 3)) :: (((tC (.str "cols")), (yStepL K (yDGet (yVar 6) (tC (.str "cols"))) (tUn zNeg (tC (.int 1))))) :: []))) tNil))))) (yTst (tOp (zNeO (He.ga K "Sheet") (sp_Sheet_eq K)) (tUn (zInvO (He.ga K "Sheet") (sp_Sheet_invert K)) (tUn (zInvO (He.ga K "Sheet") (sp_Sheet_invert K)) (yVar 8))) (yVar 8)))) (tRet (tC (.bl false))) tNext)
    (tSeq (tAsg (tDisp (((tC (.str "tracks")), (yVar 3)) :: (((tC (.str "cols")), (tOp zCatL (yDGet (yVar 6) (tC (.str "cols"))) (yDGet (yVar 7) (tC (.str "cols"))))) :: []))) (gName 14))
    (tSeq (yIf (yOr (yNot (yTst (yCall (sp_shows K) E0 (tCons (tOp (zAddO (He.ga K "Sheet") (sp_Sheet_add K) E0) (yVar 8) (yVar 9)) (tCons (yVar 14) tNil))))) (yTst (tOp (zNeO (He.ga K "Sheet") (sp_Sheet_eq K)) (tUn (zInvO (He.ga K "Sheet") (sp_Sheet_invert K)) (tOp (zAddO (He.ga K "Sheet") (sp_Sheet_add K) E0) (yVar 8) (yVar 9))) (tOp (zAddO (He.ga K "Sheet") (sp_Sheet_add K) E0) (tUn (zInvO (He.ga K "Sheet") (sp_Sheet_invert K)) (yVar 9)) (tUn (zInvO (He.ga K "Sheet") (sp_Sheet_invert K)) (yVar 8)))))) (tRet (tC (.bl false))) tNext)
    (tSeq (yIf (yOr (yTst (tOp zNe (tCB (zLenO (He.ga K "Sheet") (sp_Sheet_len K)) (tCons (tOp (zAddO (He.ga K "Sheet") (sp_Sheet_add K) E0) (yVar 8) (yVar 9)) tNil)) (tOp zAdd (yVar 4) (yVar 5)))) (yTst (tOp zNe (yFld (isC K ["Sheet"]) (yVar 8) "text") (yCall (sp_sheet_text K) E0 (tCons (yVar 6) tNil))))) (tRet (tC (.bl false))) tNext)
    (tSeq (tAsg (yNew (He.ga K "Sheet") (sp_Sheet_init K) W0 (tCons (yCall (sp_sheet_text K) E0 (tCons (tDisp (((tC (.str "tracks")), (yIfE (yTst (tOp zGt (tCB (zLen K) (tCons (yVar 3) tNil)) (tC (.int 1)))) (yStepL K (yVar 3) (tUn zNeg (tC (.int 1)))) (tLst (tCons (tC (.str "zz")) tNil)))) :: (((tC (.str "cols")), (yDGet (yVar 6) (tC (.str "cols")))) :: []))) tNil)) tNil)) (gName 15))
    (yIf (yOr (yTst (tOp (zNeD K) (yLam (TB K) (TT_refused K) (fun EL => (tOp (zAddO (He.ga K "Sheet") (sp_Sheet_add K) EL) (yVar 8) (yVar 15)))) (tTup (tCons (tC (.str "other")) (tCons (tC .non) (tCons (tC (.bl true)) tNil)))))) (yNot (yTst (yCall (sp_blank_right K) E0 (tCons (yVar 1) (tCons (yVar 3) tNil)))))) (tRet (tC (.bl false))) tNext)))))))))))))
def t_law_6 (K : PySem.W.Frag) (E : XK) : TS :=
  (tSeq (yIf (yOr (yNot (yTst (yCall (sp_shows K) E0 (tCons (yMeth (He.ga K "Sheet") "cut" (sp_Sheet_cut K) W0 (yVar 8) (tCons (yVar 11) tNil)) (tCons (yCall (sp_cut_plain K) E0 (tCons (yVar 6) (tCons (yVar 10) tNil))) tNil))))) (yTst (tOp (zNeD K) (yVar 11) (yVar 10)))) (tRet (tC (.bl false))) tNext)
    (tSeq (yIf (yOr (yTst (tOp (zNeO (He.ga K "Sheet") (sp_Sheet_eq K)) (yMeth (He.ga K "Sheet") "cut" (sp_Sheet_cut K) W0 (yVar 8) (tCons (tCB (zTuple K) (tCons (yVar 10) tNil)) tNil)) (yMeth (He.ga K "Sheet") "cut" (sp_Sheet_cut K) W0 (yVar 8) (tCons (tCB (zSortI K) (tCons (yVar 10) tNil)) tNil)))) (yTst (tOp (zNeO (He.ga K "Sheet") (sp_Sheet_eq K)) (yMeth (He.ga K "Sheet") "cut" (sp_Sheet_cut K) W0 (yVar 8) (tCons (yLRng (yVar 4)) tNil)) (yVar 8)))) (tRet (tC (.bl false))) tNext)
    (tSeq (tAsg (tTup (tCons (yCall (sp_draw K) E0 (tCons (yVar 1) (tCons (tOp zAdd (tCB (zLen K) (tCons (yVar 10) tNil)) (tC (.int 1))) tNil))) (tCons (yCall (sp_pick K) E0 (tCons (yVar 1) (tCons (tLst (tCons (tUn zNeg (tC (.int 1))) (tCons (yVar 4) (tCons (tOp zPow (tC (.int 10)) (tC (.int 20))) (tCons (tUn zNeg (yVar 4)) tNil))))) tNil))) tNil))) (gTup K 2 (gCons (gName 12) (gCons (gName 13) gNil))))
    (tSeq (yIf (yTst (tOp (zNeD K) (yLam (TB K) (TT_refused K) (fun EL => (yMeth (He.ga K "Sheet") "cut" (sp_Sheet_cut K) (fun cls d _ H => EL cls d H) (yVar 8) (tCons (tOp zCatL (tOp zCatL (tSl (zSlL K) (yVar 10) tNoPart (tPart (yVar 12))) (tLst (tCons (yVar 13) (tCons (tUn zNeg (tC (.int 9))) tNil)))) (tSl (zSlL K) (yVar 10) (tPart (yVar 12)) tNoPart)) tNil)))) (tTup (tCons (tC (.str "column")) (tCons (yVar 13) (tCons (tC (.bl true)) tNil)))))) (tRet (tC (.bl false))) tNext)
    (tSeq (yIf (yTst (tOp (zNeD K) (yLam (TB K) (TT_refused K) (fun EL => (yMeth (He.ga K "Sheet") "cut" (sp_Sheet_cut K) (fun cls d _ H => EL cls d H) (yVar 8) (tCons (tLst tNil) tNil)))) (tTup (tCons (tC (.str "count")) (tCons (tC (.int 0)) (tCons (tC (.bl true)) tNil)))))) (tRet (tC (.bl false))) tNext)
    (tSeq (yIf (yOr (yNot (yTst (yCall (sp_shows K) E0 (tCons (tUn (zInvO (He.ga K "Sheet") (sp_Sheet_invert K)) (yVar 8)) (tCons (tDisp (((tC (.str "tracks")), (yVar 3)) :: (((tC (.str "cols")), (yStepL K (yDGet (yVar 6) (tC (.str "cols"))) (tUn zNeg (tC (.int 1))))) :: []))) tNil))))) (yTst (tOp (zNeO (He.ga K "Sheet") (sp_Sheet_eq K)) (tUn (zInvO (He.ga K "Sheet") (sp_Sheet_invert K)) (tUn (zInvO (He.ga K "Sheet") (sp_Sheet_invert K)) (yVar 8))) (yVar 8)))) (tRet (tC (.bl false))) tNext)
    (tSeq (tAsg (tDisp (((tC (.str "tracks")), (yVar 3)) :: (((tC (.str "cols")), (tOp zCatL (yDGet (yVar 6) (tC (.str "cols"))) (yDGet (yVar 7) (tC (.str "cols"))))) :: []))) (gName 14))
    (tSeq (yIf (yOr (yNot (yTst (yCall (sp_shows K) E0 (tCons (tOp (zAddO (He.ga K "Sheet") (sp_Sheet_add K) E0) (yVar 8) (yVar 9)) (tCons (yVar 14) tNil))))) (yTst (tOp (zNeO (He.ga K "Sheet") (sp_Sheet_eq K)) (tUn (zInvO (He.ga K "Sheet") (sp_Sheet_invert K)) (tOp (zAddO (He.ga K "Sheet") (sp_Sheet_add K) E0) (yVar 8) (yVar 9))) (tOp (zAddO (He.ga K "Sheet") (sp_Sheet_add K) E0) (tUn (zInvO (He.ga K "Sheet") (sp_Sheet_invert K)) (yVar 9)) (tUn (zInvO (He.ga K "Sheet") (sp_Sheet_invert K)) (yVar 8)))))) (tRet (tC (.bl false))) tNext)
    (tSeq (yIf (yOr (yTst (tOp zNe (tCB (zLenO (He.ga K "Sheet") (sp_Sheet_len K)) (tCons (tOp (zAddO (He.ga K "Sheet") (sp_Sheet_add K) E0) (yVar 8) (yVar 9)) tNil)) (tOp zAdd (yVar 4) (yVar 5)))) (yTst (tOp zNe (yFld (isC K ["Sheet"]) (yVar 8) "text") (yCall (sp_sheet_text K) E0 (tCons (yVar 6) tNil))))) (tRet (tC (.bl false))) tNext)
    (tSeq (tAsg (yNew (He.ga K "Sheet") (sp_Sheet_init K) W0 (tCons (yCall (sp_sheet_text K) E0 (tCons (tDisp (((tC (.str "tracks")), (yIfE (yTst (tOp zGt (tCB (zLen K) (tCons (yVar 3) tNil)) (tC (.int 1)))) (yStepL K (yVar 3) (tUn zNeg (tC (.int 1)))) (tLst (tCons (tC (.str "zz")) tNil)))) :: (((tC (.str "cols")), (yDGet (yVar 6) (tC (.str "cols")))) :: []))) tNil)) tNil)) (gName 15))
    (yIf (yOr (yTst (tOp (zNeD K) (yLam (TB K) (TT_refused K) (fun EL => (tOp (zAddO (He.ga K "Sheet") (sp_Sheet_add K) EL) (yVar 8) (yVar 15)))) (tTup (tCons (tC (.str "other")) (tCons (tC .non) (tCons (tC (.bl true)) tNil)))))) (yNot (yTst (yCall (sp_blank_right K) E0 (tCons (yVar 1) (tCons (yVar 3) tNil)))))) (tRet (tC (.bl false))) tNext)))))))))))
def t_law_7 (K : PySem.W.Frag) (E : XK) : TS :=
  (tSeq (yIf (yOr (yTst (tOp (zNeO (He.ga K "Sheet") (sp_Sheet_eq K)) (yMeth (He.ga K "Sheet") "cut" (sp_Sheet_cut K) W0 (yVar 8) (tCons (tCB (zTuple K) (tCons (yVar 10) tNil)) tNil)) (yMeth (He.ga K "Sheet") "cut" (sp_Sheet_cut K) W0 (yVar 8) (tCons (tCB (zSortI K) (tCons (yVar 10) tNil)) tNil)))) (yTst (tOp (zNeO (He.ga K "Sheet") (sp_Sheet_eq K)) (yMeth (He.ga K "Sheet") "cut" (sp_Sheet_cut K) W0 (yVar 8) (tCons (yLRng (yVar 4)) tNil)) (yVar 8)))) (tRet (tC (.bl false))) tNext)
    (tSeq (tAsg (tTup (tCons (yCall (sp_draw K) E0 (tCons (yVar 1) (tCons (tOp zAdd (tCB (zLen K) (tCons (yVar 10) tNil)) (tC (.int 1))) tNil))) (tCons (yCall (sp_pick K) E0 (tCons (yVar 1) (tCons (tLst (tCons (tUn zNeg (tC (.int 1))) (tCons (yVar 4) (tCons (tOp zPow (tC (.int 10)) (tC (.int 20))) (tCons (tUn zNeg (yVar 4)) tNil))))) tNil))) tNil))) (gTup K 2 (gCons (gName 12) (gCons (gName 13) gNil))))
    (tSeq (yIf (yTst (tOp (zNeD K) (yLam (TB K) (TT_refused K) (fun EL => (yMeth (He.ga K "Sheet") "cut" (sp_Sheet_cut K) (fun cls d _ H => EL cls d H) (yVar 8) (tCons (tOp zCatL (tOp zCatL (tSl (zSlL K) (yVar 10) tNoPart (tPart (yVar 12))) (tLst (tCons (yVar 13) (tCons (tUn zNeg (tC (.int 9))) tNil)))) (tSl (zSlL K) (yVar 10) (tPart (yVar 12)) tNoPart)) tNil)))) (tTup (tCons (tC (.str "column")) (tCons (yVar 13) (tCons (tC (.bl true)) tNil)))))) (tRet (tC (.bl false))) tNext)
    (tSeq (yIf (yTst (tOp (zNeD K) (yLam (TB K) (TT_refused K) (fun EL => (yMeth (He.ga K "Sheet") "cut" (sp_Sheet_cut K) (fun cls d _ H => EL cls d H) (yVar 8) (tCons (tLst tNil) tNil)))) (tTup (tCons (tC (.str "count")) (tCons (tC (.int 0)) (tCons (tC (.bl true)) tNil)))))) (tRet (tC (.bl false))) tNext)
    (tSeq (yIf (yOr (yNot (yTst (yCall (sp_shows K) E0 (tCons (tUn (zInvO (He.ga K "Sheet") (sp_Sheet_invert K)) (yVar 8)) (tCons (tDisp (((tC (.str "tracks")), (yVar 3)) :: (((tC (.str "cols")), (yStepL K (yDGet (yVar 6) (tC (.str "cols"))) (tUn zNeg (tC (.int 1))))) :: []))) tNil))))) (yTst (tOp (zNeO (He.ga K "Sheet") (sp_Sheet_eq K)) (tUn (zInvO (He.ga K "Sheet") (sp_Sheet_invert K)) (tUn (zInvO (He.ga K "Sheet") (sp_Sheet_invert K)) (yVar 8))) (yVar 8)))) (tRet (tC (.bl false))) tNext)
    (tSeq (tAsg (tDisp (((tC (.str "tracks")), (yVar 3)) :: (((tC (.str "cols")), (tOp zCatL (yDGet (yVar 6) (tC (.str "cols"))) (yDGet (yVar 7) (tC (.str "cols"))))) :: []))) (gName 14))
    (tSeq (yIf (yOr (yNot (yTst (yCall (sp_shows K) E0 (tCons (tOp (zAddO (He.ga K "Sheet") (sp_Sheet_add K) E0) (yVar 8) (yVar 9)) (tCons (yVar 14) tNil))))) (yTst (tOp (zNeO (He.ga K "Sheet") (sp_Sheet_eq K)) (tUn (zInvO (He.ga K "Sheet") (sp_Sheet_invert K)) (tOp (zAddO (He.ga K "Sheet") (sp_Sheet_add K) E0) (yVar 8) (yVar 9))) (tOp (zAddO (He.ga K "Sheet") (sp_Sheet_add K) E0) (tUn (zInvO (He.ga K "Sheet") (sp_Sheet_invert K)) (yVar 9)) (tUn (zInvO (He.ga K "Sheet") (sp_Sheet_invert K)) (yVar 8)))))) (tRet (tC (.bl false))) tNext)
    (tSeq (yIf (yOr (yTst (tOp zNe (tCB (zLenO (He.ga K "Sheet") (sp_Sheet_len K)) (tCons (tOp (zAddO (He.ga K "Sheet") (sp_Sheet_add K) E0) (yVar 8) (yVar 9)) tNil)) (tOp zAdd (yVar 4) (yVar 5)))) (yTst (tOp zNe (yFld (isC K ["Sheet"]) (yVar 8) "text") (yCall (sp_sheet_text K) E0 (tCons (yVar 6) tNil))))) (tRet (tC (.bl false))) tNext)
    (tSeq (tAsg (yNew (He.ga K "Sheet") (sp_Sheet_init K) W0 (tCons (yCall (sp_sheet_text K) E0 (tCons (tDisp (((tC (.str "tracks")), (yIfE (yTst (tOp zGt (tCB (zLen K) (tCons (yVar 3) tNil)) (tC (.int 1)))) (yStepL K (yVar 3) (tUn zNeg (tC (.int 1)))) (tLst (tCons (tC (.str "zz")) tNil)))) :: (((tC (.str "cols")), (yDGet (yVar 6) (tC (.str "cols")))) :: []))) tNil)) tNil)) (gName 15))
    (yIf (yOr (yTst (tOp (zNeD K) (yLam (TB K) (TT_refused K) (fun EL => (tOp (zAddO (He.ga K "Sheet") (sp_Sheet_add K) EL) (yVar 8) (yVar 15)))) (tTup (tCons (tC (.str "other")) (tCons (tC .non) (tCons (tC (.bl true)) tNil)))))) (yNot (yTst (yCall (sp_blank_right K) E0 (tCons (yVar 1) (tCons (yVar 3) tNil)))))) (tRet (tC (.bl false))) tNext))))))))))
def t_law_8 (K : PySem.W.Frag) (E : XK) : TS :=
  (tSeq (tAsg (tTup (tCons (yCall (sp_draw K) E0 (tCons (yVar 1) (tCons (tOp zAdd (tCB (zLen K) (tCons (yVar 10) tNil)) (tC (.int 1))) tNil))) (tCons (yCall (sp_pick K) E0 (tCons (yVar 1) (tCons (tLst (tCons (tUn zNeg (tC (.int 1))) (tCons (yVar 4) (tCons (tOp zPow (tC (.int 10)) (tC (.int 20))) (tCons (tUn zNeg (yVar 4)) tNil))))) tNil))) tNil))) (gTup K 2 (gCons (gName 12) (gCons (gName 13) gNil))))
    (tSeq (yIf (yTst (tOp (zNeD K) (yLam (TB K) (TT_refused K) (fun EL => (yMeth (He.ga K "Sheet") "cut" (sp_Sheet_cut K) (fun cls d _ H => EL cls d H) (yVar 8) (tCons (tOp zCatL (tOp zCatL (tSl (zSlL K) (yVar 10) tNoPart (tPart (yVar 12))) (tLst (tCons (yVar 13) (tCons (tUn zNeg (tC (.int 9))) tNil)))) (tSl (zSlL K) (yVar 10) (tPart (yVar 12)) tNoPart)) tNil)))) (tTup (tCons (tC (.str "column")) (tCons (yVar 13) (tCons (tC (.bl true)) tNil)))))) (tRet (tC (.bl false))) tNext)
    (tSeq (yIf (yTst (tOp (zNeD K) (yLam (TB K) (TT_refused K) (fun EL => (yMeth (He.ga K "Sheet") "cut" (sp_Sheet_cut K) (fun cls d _ H => EL cls d H) (yVar 8) (tCons (tLst tNil) tNil)))) (tTup (tCons (tC (.str "count")) (tCons (tC (.int 0)) (tCons (tC (.bl true)) tNil)))))) (tRet (tC (.bl false))) tNext)
    (tSeq (yIf (yOr (yNot (yTst (yCall (sp_shows K) E0 (tCons (tUn (zInvO (He.ga K "Sheet") (sp_Sheet_invert K)) (yVar 8)) (tCons (tDisp (((tC (.str "tracks")), (yVar 3)) :: (((tC (.str "cols")), (yStepL K (yDGet (yVar 6) (tC (.str "cols"))) (tUn zNeg (tC (.int 1))))) :: []))) tNil))))) (yTst (tOp (zNeO (He.ga K "Sheet") (sp_Sheet_eq K)) (tUn (zInvO (He.ga K "Sheet") (sp_Sheet_invert K)) (tUn (zInvO (He.ga K "Sheet") (sp_Sheet_invert K)) (yVar 8))) (yVar 8)))) (tRet (tC (.bl false))) tNext)
    (tSeq (tAsg (tDisp (((tC (.str "tracks")), (yVar 3)) :: (((tC (.str "cols")), (tOp zCatL (yDGet (yVar 6) (tC (.str "cols"))) (yDGet (yVar 7) (tC (.str "cols"))))) :: []))) (gName 14))
    (tSeq (yIf (yOr (yNot (yTst (yCall (sp_shows K) E0 (tCons (tOp (zAddO (He.ga K "Sheet") (sp_Sheet_add K) E0) (yVar 8) (yVar 9)) (tCons (yVar 14) tNil))))) (yTst (tOp (zNeO (He.ga K "Sheet") (sp_Sheet_eq K)) (tUn (zInvO (He.ga K "Sheet") (sp_Sheet_invert K)) (tOp (zAddO (He.ga K "Sheet") (sp_Sheet_add K) E0) (yVar 8) (yVar 9))) (tOp (zAddO (He.ga K "Sheet") (sp_Sheet_add K) E0) (tUn (zInvO (He.ga K "Sheet") (sp_Sheet_invert K)) (yVar 9)) (tUn (zInvO (He.ga K "Sheet") (sp_Sheet_invert K)) (yVar 8)))))) (tRet (tC (.bl false))) tNext)
    (tSeq (yIf (yOr (yTst (tOp zNe (tCB (zLenO (He.ga K "Sheet") (sp_Sheet_len K)) (tCons (tOp (zAddO (He.ga K "Sheet") (sp_Sheet_add K) E0) (yVar 8) (yVar 9)) tNil)) (tOp zAdd (yVar 4) (yVar 5)))) (yTst (tOp zNe (yFld (isC K ["Sheet"]) (yVar 8) "text") (yCall (sp_sheet_text K) E0 (tCons (yVar 6) tNil))))) (tRet (tC (.bl false))) tNext)
    (tSeq (tAsg (yNew (He.ga K "Sheet") (sp_Sheet_init K) W0 (tCons (yCall (sp_sheet_text K) E0 (tCons (tDisp (((tC (.str "tracks")), (yIfE (yTst (tOp zGt (tCB (zLen K) (tCons (yVar 3) tNil)) (tC (.int 1)))) (yStepL K (yVar 3) (tUn zNeg (tC (.int 1)))) (tLst (tCons (tC (.str "zz")) tNil)))) :: (((tC (.str "cols")), (yDGet (yVar 6) (tC (.str "cols")))) :: []))) tNil)) tNil)) (gName 15))
    (yIf (yOr (yTst (tOp (zNeD K) (yLam (TB K) (TT_refused K) (fun EL => (tOp (zAddO (He.ga K "Sheet") (sp_Sheet_add K) EL) (yVar 8) (yVar 15)))) (tTup (tCons (tC (.str "other")) (tCons (tC .non) (tCons (tC (.bl true)) tNil)))))) (yNot (yTst (yCall (sp_blank_right K) E0 (tCons (yVar 1) (tCons (yVar 3) tNil)))))) (tRet (tC (.bl false))) tNext)))))))))
def t_law_9 (K : PySem.W.Frag) (E : XK) : TS :=
  (tSeq (yIf (yTst (tOp (zNeD K) (yLam (TB K) (TT_refused K) (fun EL => (yMeth (He.ga K "Sheet") "cut" (sp_Sheet_cut K) (fun cls d _ H => EL cls d H) (yVar 8) (tCons (tOp zCatL (tOp zCatL (tSl (zSlL K) (yVar 10) tNoPart (tPart (yVar 12))) (tLst (tCons (yVar 13) (tCons (tUn zNeg (tC (.int 9))) tNil)))) (tSl (zSlL K) (yVar 10) (tPart (yVar 12)) tNoPart)) tNil)))) (tTup (tCons (tC (.str "column")) (tCons (yVar 13) (tCons (tC (.bl true)) tNil)))))) (tRet (tC (.bl false))) tNext)
    (tSeq (yIf (yTst (tOp (zNeD K) (yLam (TB K) (TT_refused K) (fun EL => (yMeth (He.ga K "Sheet") "cut" (sp_Sheet_cut K) (fun cls d _ H => EL cls d H) (yVar 8) (tCons (tLst tNil) tNil)))) (tTup (tCons (tC (.str "count")) (tCons (tC (.int 0)) (tCons (tC (.bl true)) tNil)))))) (tRet (tC (.bl false))) tNext)
    (tSeq (yIf (yOr (yNot (yTst (yCall (sp_shows K) E0 (tCons (tUn (zInvO (He.ga K "Sheet") (sp_Sheet_invert K)) (yVar 8)) (tCons (tDisp (((tC (.str "tracks")), (yVar 3)) :: (((tC (.str "cols")), (yStepL K (yDGet (yVar 6) (tC (.str "cols"))) (tUn zNeg (tC (.int 1))))) :: []))) tNil))))) (yTst (tOp (zNeO (He.ga K "Sheet") (sp_Sheet_eq K)) (tUn (zInvO (He.ga K "Sheet") (sp_Sheet_invert K)) (tUn (zInvO (He.ga K "Sheet") (sp_Sheet_invert K)) (yVar 8))) (yVar 8)))) (tRet (tC (.bl false))) tNext)
    (tSeq (tAsg (tDisp (((tC (.str "tracks")), (yVar 3)) :: (((tC (.str "cols")), (tOp zCatL (yDGet (yVar 6) (tC (.str "cols"))) (yDGet (yVar 7) (tC (.str "cols"))))) :: []))) (gName 14))
    (tSeq (yIf (yOr (yNot (yTst (yCall (sp_shows K) E0 (tCons (tOp (zAddO (He.ga K "Sheet") (sp_Sheet_add K) E0) (yVar 8) (yVar 9)) (tCons (yVar 14) tNil))))) (yTst (tOp (zNeO (He.ga K "Sheet") (sp_Sheet_eq K)) (tUn (zInvO (He.ga K "Sheet") (sp_Sheet_invert K)) (tOp (zAddO (He.ga K "Sheet") (sp_Sheet_add K) E0) (yVar 8) (yVar 9))) (tOp (zAddO (He.ga K "Sheet") (sp_Sheet_add K) E0) (tUn (zInvO (He.ga K "Sheet") (sp_Sheet_invert K)) (yVar 9)) (tUn (zInvO (He.ga K "Sheet") (sp_Sheet_invert K)) (yVar 8)))))) (tRet (tC (.bl false))) tNext)
    (tSeq (yIf (yOr (yTst (tOp zNe (tCB (zLenO (He.ga K "Sheet") (sp_Sheet_len K)) (tCons (tOp (zAddO (He.ga K "Sheet") (sp_Sheet_add K) E0) (yVar 8) (yVar 9)) tNil)) (tOp zAdd (yVar 4) (yVar 5)))) (yTst (tOp zNe (yFld (isC K ["Sheet"]) (yVar 8) "text") (yCall (sp_sheet_text K) E0 (tCons (yVar 6) tNil))))) (tRet (tC (.bl false))) tNext)
    (tSeq (tAsg (yNew (He.ga K "Sheet") (sp_Sheet_init K) W0 (tCons (yCall (sp_sheet_text K) E0 (tCons (tDisp (((tC (.str "tracks")), (yIfE (yTst (tOp zGt (tCB (zLen K) (tCons (yVar 3) tNil)) (tC (.int 1)))) (yStepL K (yVar 3) (tUn zNeg (tC (.int 1)))) (tLst (tCons (tC (.str "zz")) tNil)))) :: (((tC (.str "cols")), (yDGet (yVar 6) (tC (.str "cols")))) :: []))) tNil)) tNil)) (gName 15))
    (yIf (yOr (yTst (tOp (zNeD K) (yLam (TB K) (TT_refused K) (fun EL => (tOp (zAddO (He.ga K "Sheet") (sp_Sheet_add K) EL) (yVar 8) (yVar 15)))) (tTup (tCons (tC (.str "other")) (tCons (tC .non) (tCons (tC (.bl true)) tNil)))))) (yNot (yTst (yCall (sp_blank_right K) E0 (tCons (yVar 1) (tCons (yVar 3) tNil)))))) (tRet (tC (.bl false))) tNext))))))))
def t_law_10 (K : PySem.W.Frag) (E : XK) : TS :=
  (tSeq (yIf (yTst (tOp (zNeD K) (yLam (TB K) (TT_refused K) (fun EL => (yMeth (He.ga K "Sheet") "cut" (sp_Sheet_cut K) (fun cls d _ H => EL cls d H) (yVar 8) (tCons (tLst tNil) tNil)))) (tTup (tCons (tC (.str "count")) (tCons (tC (.int 0)) (tCons (tC (.bl true)) tNil)))))) (tRet (tC (.bl false))) tNext)
    (tSeq (yIf (yOr (yNot (yTst (yCall (sp_shows K) E0 (tCons (tUn (zInvO (He.ga K "Sheet") (sp_Sheet_invert K)) (yVar 8)) (tCons (tDisp (((tC (.str "tracks")), (yVar 3)) :: (((tC (.str "cols")), (yStepL K (yDGet (yVar 6) (tC (.str "cols"))) (tUn zNeg (tC (.int 1))))) :: []))) tNil))))) (yTst (tOp (zNeO (He.ga K "Sheet") (sp_Sheet_eq K)) (tUn (zInvO (He.ga K "Sheet") (sp_Sheet_invert K)) (tUn (zInvO (He.ga K "Sheet") (sp_Sheet_invert K)) (yVar 8))) (yVar 8)))) (tRet (tC (.bl false))) tNext)
    (tSeq (tAsg (tDisp (((tC (.str "tracks")), (yVar 3)) :: (((tC (.str "cols")), (tOp zCatL (yDGet (yVar 6) (tC (.str "cols"))) (yDGet (yVar 7) (tC (.str "cols"))))) :: []))) (gName 14))
    (tSeq (yIf (yOr (yNot (yTst (yCall (sp_shows K) E0 (tCons (tOp (zAddO (He.ga K "Sheet") (sp_Sheet_add K) E0) (yVar 8) (yVar 9)) (tCons (yVar 14) tNil))))) (yTst (tOp (zNeO (He.ga K "Sheet") (sp_Sheet_eq K)) (tUn (zInvO (He.ga K "Sheet") (sp_Sheet_invert K)) (tOp (zAddO (He.ga K "Sheet") (sp_Sheet_add K) E0) (yVar 8) (yVar 9))) (tOp (zAddO (He.ga K "Sheet") (sp_Sheet_add K) E0) (tUn (zInvO (He.ga K "Sheet") (sp_Sheet_invert K)) (yVar 9)) (tUn (zInvO (He.ga K "Sheet") (sp_Sheet_invert K)) (yVar 8)))))) (tRet (tC (.bl false))) tNext)
    (tSeq (yIf (yOr (yTst (tOp zNe (tCB (zLenO (He.ga K "Sheet") (sp_Sheet_len K)) (tCons (tOp (zAddO (He.ga K "Sheet") (sp_Sheet_add K) E0) (yVar 8) (yVar 9)) tNil)) (tOp zAdd (yVar 4) (yVar 5)))) (yTst (tOp zNe (yFld (isC K ["Sheet"]) (yVar 8) "text") (yCall (sp_sheet_text K) E0 (tCons (yVar 6) tNil))))) (tRet (tC (.bl false))) tNext)
    (tSeq (tAsg (yNew (He.ga K "Sheet") (sp_Sheet_init K) W0 (tCons (yCall (sp_sheet_text K) E0 (tCons (tDisp (((tC (.str "tracks")), (yIfE (yTst (tOp zGt (tCB (zLen K) (tCons (yVar 3) tNil)) (tC (.int 1)))) (yStepL K (yVar 3) (tUn zNeg (tC (.int 1)))) (tLst (tCons (tC (.str "zz")) tNil)))) :: (((tC (.str "cols")), (yDGet (yVar 6) (tC (.str "cols")))) :: []))) tNil)) tNil)) (gName 15))
    (yIf (yOr (yTst (tOp (zNeD K) (yLam (TB K) (TT_refused K) (fun EL => (tOp (zAddO (He.ga K "Sheet") (sp_Sheet_add K) EL) (yVar 8) (yVar 15)))) (tTup (tCons (tC (.str "other")) (tCons (tC .non) (tCons (tC (.bl true)) tNil)))))) (yNot (yTst (yCall (sp_blank_right K) E0 (tCons (yVar 1) (tCons (yVar 3) tNil)))))) (tRet (tC (.bl false))) tNext)))))))
def t_law_11 (K : PySem.W.Frag) (E : XK) : TS :=
  (tSeq (yIf (yOr (yNot (yTst (yCall (sp_shows K) E0 (tCons (tUn (zInvO (He.ga K "Sheet") (sp_Sheet_invert K)) (yVar 8)) (tCons (tDisp (((tC (.str "tracks")), (yVar 3)) :: (((tC (.str "cols")), (yStepL K (yDGet (yVar 6) (tC (.str "cols"))) (tUn zNeg (tC (.int 1))))) :: []))) tNil))))) (yTst (tOp (zNeO (He.ga K "Sheet") (sp_Sheet_eq K)) (tUn (zInvO (He.ga K "Sheet") (sp_Sheet_invert K)) (tUn (zInvO (He.ga K "Sheet") (sp_Sheet_invert K)) (yVar 8))) (yVar 8)))) (tRet (tC (.bl false))) tNext)
    (tSeq (tAsg (tDisp (((tC (.str "tracks")), (yVar 3)) :: (((tC (.str "cols")), (tOp zCatL (yDGet (yVar 6) (tC (.str "cols"))) (yDGet (yVar 7) (tC (.str "cols"))))) :: []))) (gName 14))
    (tSeq (yIf (yOr (yNot (yTst (yCall (sp_shows K) E0 (tCons (tOp (zAddO (He.ga K "Sheet") (sp_Sheet_add K) E0) (yVar 8) (yVar 9)) (tCons (yVar 14) tNil))))) (yTst (tOp (zNeO (He.ga K "Sheet") (sp_Sheet_eq K)) (tUn (zInvO (He.ga K "Sheet") (sp_Sheet_invert K)) (tOp (zAddO (He.ga K "Sheet") (sp_Sheet_add K) E0) (yVar 8) (yVar 9))) (tOp (zAddO (He.ga K "Sheet") (sp_Sheet_add K) E0) (tUn (zInvO (He.ga K "Sheet") (sp_Sheet_invert K)) (yVar 9)) (tUn (zInvO (He.ga K "Sheet") (sp_Sheet_invert K)) (yVar 8)))))) (tRet (tC (.bl false))) tNext)
    (tSeq (yIf (yOr (yTst (tOp zNe (tCB (zLenO (He.ga K "Sheet") (sp_Sheet_len K)) (tCons (tOp (zAddO (He.ga K "Sheet") (sp_Sheet_add K) E0) (yVar 8) (yVar 9)) tNil)) (tOp zAdd (yVar 4) (yVar 5)))) (yTst (tOp zNe (yFld (isC K ["Sheet"]) (yVar 8) "text") (yCall (sp_sheet_text K) E0 (tCons (yVar 6) tNil))))) (tRet (tC (.bl false))) tNext)
    (tSeq (tAsg (yNew (He.ga K "Sheet") (sp_Sheet_init K) W0 (tCons (yCall (sp_sheet_text K) E0 (tCons (tDisp (((tC (.str "tracks")), (yIfE (yTst (tOp zGt (tCB (zLen K) (tCons (yVar 3) tNil)) (tC (.int 1)))) (yStepL K (yVar 3) (tUn zNeg (tC (.int 1)))) (tLst (tCons (tC (.str "zz")) tNil)))) :: (((tC (.str "cols")), (yDGet (yVar 6) (tC (.str "cols")))) :: []))) tNil)) tNil)) (gName 15))
    (yIf (yOr (yTst (tOp (zNeD K) (yLam (TB K) (TT_refused K) (fun EL => (tOp (zAddO (He.ga K "Sheet") (sp_Sheet_add K) EL) (yVar 8) (yVar 15)))) (tTup (tCons (tC (.str "other")) (tCons (tC .non) (tCons (tC (.bl true)) tNil)))))) (yNot (yTst (yCall (sp_blank_right K) E0 (tCons (yVar 1) (tCons (yVar 3) tNil)))))) (tRet (tC (.bl false))) tNext))))))
def t_law_12 (K : PySem.W.Frag) (E : XK) : TS :=
  (tSeq (tAsg (tDisp (((tC (.str "tracks")), (yVar 3)) :: (((tC (.str "cols")), (tOp zCatL (yDGet (yVar 6) (tC (.str "cols"))) (yDGet (yVar 7) (tC (.str "cols"))))) :: []))) (gName 14))
    (tSeq (yIf (yOr (yNot (yTst (yCall (sp_shows K) E0 (tCons (tOp (zAddO (He.ga K "Sheet") (sp_Sheet_add K) E0) (yVar 8) (yVar 9)) (tCons (yVar 14) tNil))))) (yTst (tOp (zNeO (He.ga K "Sheet") (sp_Sheet_eq K)) (tUn (zInvO (He.ga K "Sheet") (sp_Sheet_invert K)) (tOp (zAddO (He.ga K "Sheet") (sp_Sheet_add K) E0) (yVar 8) (yVar 9))) (tOp (zAddO (He.ga K "Sheet") (sp_Sheet_add K) E0) (tUn (zInvO (He.ga K "Sheet") (sp_Sheet_invert K)) (yVar 9)) (tUn (zInvO (He.ga K "Sheet") (sp_Sheet_invert K)) (yVar 8)))))) (tRet (tC (.bl false))) tNext)
    (tSeq (yIf (yOr (yTst (tOp zNe (tCB (zLenO (He.ga K "Sheet") (sp_Sheet_len K)) (tCons (tOp (zAddO (He.ga K "Sheet") (sp_Sheet_add K) E0) (yVar 8) (yVar 9)) tNil)) (tOp zAdd (yVar 4) (yVar 5)))) (yTst (tOp zNe (yFld (isC K ["Sheet"]) (yVar 8) "text") (yCall (sp_sheet_text K) E0 (tCons (yVar 6) tNil))))) (tRet (tC (.bl false))) tNext)
    (tSeq (tAsg (yNew (He.ga K "Sheet") (sp_Sheet_init K) W0 (tCons (yCall (sp_sheet_text K) E0 (tCons (tDisp (((tC (.str "tracks")), (yIfE (yTst (tOp zGt (tCB (zLen K) (tCons (yVar 3) tNil)) (tC (.int 1)))) (yStepL K (yVar 3) (tUn zNeg (tC (.int 1)))) (tLst (tCons (tC (.str "zz")) tNil)))) :: (((tC (.str "cols")), (yDGet (yVar 6) (tC (.str "cols")))) :: []))) tNil)) tNil)) (gName 15))
    (yIf (yOr (yTst (tOp (zNeD K) (yLam (TB K) (TT_refused K) (fun EL => (tOp (zAddO (He.ga K "Sheet") (sp_Sheet_add K) EL) (yVar 8) (yVar 15)))) (tTup (tCons (tC (.str "other")) (tCons (tC .non) (tCons (tC (.bl true)) tNil)))))) (yNot (yTst (yCall (sp_blank_right K) E0 (tCons (yVar 1) (tCons (yVar 3) tNil)))))) (tRet (tC (.bl false))) tNext)))))
def t_law_13 (K : PySem.W.Frag) (E : XK) : TS :=
  (tSeq (yIf (yOr (yNot (yTst (yCall (sp_shows K) E0 (tCons (tOp (zAddO (He.ga K "Sheet") (sp_Sheet_add K) E0) (yVar 8) (yVar 9)) (tCons (yVar 14) tNil))))) (yTst (tOp (zNeO (He.ga K "Sheet") (sp_Sheet_eq K)) (tUn (zInvO (He.ga K "Sheet") (sp_Sheet_invert K)) (tOp (zAddO (He.ga K "Sheet") (sp_Sheet_add K) E0) (yVar 8) (yVar 9))) (tOp (zAddO (He.ga K "Sheet") (sp_Sheet_add K) E0) (tUn (zInvO (He.ga K "Sheet") (sp_Sheet_invert K)) (yVar 9)) (tUn (zInvO (He.ga K "Sheet") (sp_Sheet_invert K)) (yVar 8)))))) (tRet (tC (.bl false))) tNext)
    (tSeq (yIf (yOr (yTst (tOp zNe (tCB (zLenO (He.ga K "Sheet") (sp_Sheet_len K)) (tCons (tOp (zAddO (He.ga K "Sheet") (sp_Sheet_add K) E0) (yVar 8) (yVar 9)) tNil)) (tOp zAdd (yVar 4) (yVar 5)))) (yTst (tOp zNe (yFld (isC K ["Sheet"]) (yVar 8) "text") (yCall (sp_sheet_text K) E0 (tCons (yVar 6) tNil))))) (tRet (tC (.bl false))) tNext)
    (tSeq (tAsg (yNew (He.ga K "Sheet") (sp_Sheet_init K) W0 (tCons (yCall (sp_sheet_text K) E0 (tCons (tDisp (((tC (.str "tracks")), (yIfE (yTst (tOp zGt (tCB (zLen K) (tCons (yVar 3) tNil)) (tC (.int 1)))) (yStepL K (yVar 3) (tUn zNeg (tC (.int 1)))) (tLst (tCons (tC (.str "zz")) tNil)))) :: (((tC (.str "cols")), (yDGet (yVar 6) (tC (.str "cols")))) :: []))) tNil)) tNil)) (gName 15))
    (yIf (yOr (yTst (tOp (zNeD K) (yLam (TB K) (TT_refused K) (fun EL => (tOp (zAddO (He.ga K "Sheet") (sp_Sheet_add K) EL) (yVar 8) (yVar 15)))) (tTup (tCons (tC (.str "other")) (tCons (tC .non) (tCons (tC (.bl true)) tNil)))))) (yNot (yTst (yCall (sp_blank_right K) E0 (tCons (yVar 1) (tCons (yVar 3) tNil)))))) (tRet (tC (.bl false))) tNext))))
def t_law_14 (K : PySem.W.Frag) (E : XK) : TS :=
  (tSeq (yIf (yOr (yTst (tOp zNe (tCB (zLenO (He.ga K "Sheet") (sp_Sheet_len K)) (tCons (tOp (zAddO (He.ga K "Sheet") (sp_Sheet_add K) E0) (yVar 8) (yVar 9)) tNil)) (tOp zAdd (yVar 4) (yVar 5)))) (yTst (tOp zNe (yFld (isC K ["Sheet"]) (yVar 8) "text") (yCall (sp_sheet_text K) E0 (tCons (yVar 6) tNil))))) (tRet (tC (.bl false))) tNext)
    (tSeq (tAsg (yNew (He.ga K "Sheet") (sp_Sheet_init K) W0 (tCons (yCall (sp_sheet_text K) E0 (tCons (tDisp (((tC (.str "tracks")), (yIfE (yTst (tOp zGt (tCB (zLen K) (tCons (yVar 3) tNil)) (tC (.int 1)))) (yStepL K (yVar 3) (tUn zNeg (tC (.int 1)))) (tLst (tCons (tC (.str "zz")) tNil)))) :: (((tC (.str "cols")), (yDGet (yVar 6) (tC (.str "cols")))) :: []))) tNil)) tNil)) (gName 15))
    (yIf (yOr (yTst (tOp (zNeD K) (yLam (TB K) (TT_refused K) (fun EL => (tOp (zAddO (He.ga K "Sheet") (sp_Sheet_add K) EL) (yVar 8) (yVar 15)))) (tTup (tCons (tC (.str "other")) (tCons (tC .non) (tCons (tC (.bl true)) tNil)))))) (yNot (yTst (yCall (sp_blank_right K) E0 (tCons (yVar 1) (tCons (yVar 3) tNil)))))) (tRet (tC (.bl false))) tNext)))
def t_law_15 (K : PySem.W.Frag) (E : XK) : TS :=
  (tSeq (tAsg (yNew (He.ga K "Sheet") (sp_Sheet_init K) W0 (tCons (yCall (sp_sheet_text K) E0 (tCons (tDisp (((tC (.str "tracks")), (yIfE (yTst (tOp zGt (tCB (zLen K) (tCons (yVar 3) tNil)) (tC (.int 1)))) (yStepL K (yVar 3) (tUn zNeg (tC (.int 1)))) (tLst (tCons (tC (.str "zz")) tNil)))) :: (((tC (.str "cols")), (yDGet (yVar 6) (tC (.str "cols")))) :: []))) tNil)) tNil)) (gName 15))
    (yIf (yOr (yTst (tOp (zNeD K) (yLam (TB K) (TT_refused K) (fun EL => (tOp (zAddO (He.ga K "Sheet") (sp_Sheet_add K) EL) (yVar 8) (yVar 15)))) (tTup (tCons (tC (.str "other")) (tCons (tC .non) (tCons (tC (.bl true)) tNil)))))) (yNot (yTst (yCall (sp_blank_right K) E0 (tCons (yVar 1) (tCons (yVar 3) tNil)))))) (tRet (tC (.bl false))) tNext))
def t_law_16 (K : PySem.W.Frag) (E : XK) : TS :=
  (yIf (yOr (yTst (tOp (zNeD K) (yLam (TB K) (TT_refused K) (fun EL => (tOp (zAddO (He.ga K "Sheet") (sp_Sheet_add K) EL) (yVar 8) (yVar 15)))) (tTup (tCons (tC (.str "other")) (tCons (tC .non) (tCons (tC (.bl true)) tNil)))))) (yNot (yTst (yCall (sp_blank_right K) E0 (tCons (yVar 1) (tCons (yVar 3) tNil)))))) (tRet (tC (.bl false))) tNext)
def sl (s : V) (p l d d2 a a2 q h : Addr) (i m m2 : Int) (x12 x13 x14 x15 x16 : Option V) : L2.St := [some s, some (.ref p), some (.int i), some (.ref l), some (.int m), some (.int m2), some (.ref d), some (.ref d2), some (.ref a), some (.ref a2), some (.ref q), some (.ref h), x12, x13, x14, x15, x16]
section
variable {D : Ends} {G : Hp} {p c l d d2 a a2 q h : Addr} {n m m2 : Nat} {ys : List Str} {cols cols2 : List (List Int)} {cs : List Int} {s : V} {i : Int} {x12 x13 x14 x15 x16 : Option V}
/-! ### the program's operators on what the law has -/
theorem inv_sp {a : Addr} {cs : List (List Int)} {E' : XK} (S : SF K) (f : LF ys cols cols2 m m2) (hA : SheetAt K G a ys (rowsOf cs ys.length)) (h4 : cs.length ≤ 400000) (q : ∀ b G', Ext G G' → G b = none → SheetAt K G' b ys (rowsOf cs.reverse ys.length) → Q (.ref b) G') : sp_Sheet_invert K [.ref a] G Q E' :=
  ⟨a, ys, _, rfl, hA, f.rok h4, S.rk, fun b G' e nb hb => q b G' e nb (by rw [← rows_rev]; exact hb)⟩
theorem add_sp {a b : Addr} {c1 c2 : List (List Int)} {E' : XK} (S : SF K) (f : LF ys cols cols2 m m2) (hA : SheetAt K G a ys (rowsOf c1 ys.length)) (hB : SheetAt K G b ys (rowsOf c2 ys.length)) (h1 : c1.length ≤ 400000) (h2 : c2.length ≤ 400000)
    (q : ∀ b G', Ext G G' → G b = none → SheetAt K G' b ys (rowsOf (c1 ++ c2) ys.length) → Q (.ref b) G') : sp_Sheet_add K [.ref a, .ref b] G Q E' :=
  ⟨a, b, ys, _, ys, _, rfl, hA, hB, f.rok h1, f.rok h2, fun s hs => by rw [f.rlen s hs]; exact h1, fun s hs => by rw [f.rlen s hs]; exact h2, f.lay, f.lay, S.rk, fun z => absurd rfl z, fun _ b G' e nb hb => q b G' e nb (by rw [← rows_cat]; exact hb)⟩
theorem off_none {cs : List Int} {m : Nat} (h : ∀ k ∈ cs, 0 ≤ k ∧ k < (m : Int)) : cs.find? (offS m) = none := List.find?_eq_none.mpr fun k hk => by
  obtain ⟨h0, h1⟩ := h k hk
  unfold offS
  simp [h0, h1]
theorem cut_sp {a p : Addr} {cs : List Int} {E' : XK} (S : SF K) (f : LF ys cols cols2 m m2) (hA : SheetAt K G a ys (rowsOf cols ys.length)) (hp : SeqO G p (cs.map V.int)) (hl : cs.length ≤ 62) (h0 : cs ≠ []) (hin : ∀ k ∈ cs, 0 ≤ k ∧ k < (cols.length : Int))
    (q : ∀ ks, ks.Pairwise (· < ·) → (∀ k, k ∈ ks ↔ k ∈ cs) → ∀ b G', Ext G G' → G b = none → SheetAt K G' b ys (rowsOf (colsAt cols ks) ys.length) → Q (.ref b) G') : sp_Sheet_cut K [.ref a, .ref p] G Q E' := by
  have hm : cols.length ≤ 400000 := by
    have := f.len
    have := f.m3
    omega
  refine ⟨a, p, ys, _, cs, cols.length, rfl, hA, f.rok hm, f.one, f.rlen, hm, hp, hl, S.rk, fun c hc => ?_, fun z => absurd z h0, fun _ _ ks pw mem b G' e nb hb => q ks pw mem b G' e nb ?_⟩
  · rw [off_none hin] at hc
    cases hc
  · rw [← rows_pick (fun k hk => hin k ((mem k).mp hk))]
    exact hb
theorem eqv_ints (cs : List Int) : PyData.eqv (.list ((cs.map V.int).map dataV)) (.list ((cs.map V.int).map dataV)) = true := by
  show PyData.eqvAll _ _ = true
  induction cs with
  | nil => rfl
  | cons a r ih =>
    show (PyData.eqv (.int a) (.int a) && PyData.eqvAll ((r.map V.int).map dataV) ((r.map V.int).map dataV)) = true
    rw [ih]
    simp [PyData.eqv]
theorem flat_ints {cs : List Int} : (cs.map V.int).all flatV = true := by simp [flatV]
theorem ok_intsL {cs : List Int} : (cs.map V.int).all okV = true := List.all_eq_true.mpr fun z hz => by
  obtain ⟨n, _, rfl⟩ := List.mem_map.mp hz
  rfl
/-- a plain sheet, displayed -/
theorem disp_sheet {d l c : Addr} {cas : List Addr} {cols : List (List Int)} (hl : G l = some (.lst (ys.map V.str))) (hc : G c = some (.lst (cas.map V.ref))) (hC : ColsAt G cas cols) (hd : G d = some (.dK [])) : SheetC (upd G d (.dK (mergeK [] [(Sum.inr "tracks", .ref l), (Sum.inr "cols", .ref c)]))) d ys cols := by
  rw [show mergeK [] [(Sum.inr "tracks", V.ref l), (Sum.inr "cols", V.ref c)] = shKvs l c from merge_sh]
  have st : ∀ {b : Addr} {xs : List V}, G b = some (.lst xs) → (upd G d (.dK (shKvs l c))) b = some (.lst xs) := fun {b xs} hb => by
    rw [upd_ne (fun z => by rw [z, hd] at hb; cases hb)]
    exact hb
  refine ⟨l, c, cas, upd_same, st hl, st hc, hC.1, fun i x hx => ?_⟩
  obtain ⟨bs, b1, b2⟩ := hC.2 i x hx
  exact ⟨bs, b1, st b2⟩
theorem ColsAt.rev {cas : List Addr} {cols : List (List Int)} (h : ColsAt G cas cols) : ColsAt G cas.reverse cols.reverse := by
  obtain ⟨h1, h2⟩ := h
  refine ⟨by simp [h1], fun i x hx => ?_⟩
  have hi := (List.getElem?_eq_some_iff.mp hx).1
  rw [List.length_reverse] at hi
  rw [List.getElem?_reverse hi] at hx
  obtain ⟨bs, b1, b2⟩ := h2 _ x hx
  exact ⟨bs, by rw [List.getElem?_reverse (by omega), ← h1]; exact b1, b2⟩
theorem ColsAt.cat {cas cas2 : List Addr} {cols cols2 : List (List Int)} (h : ColsAt G cas cols) (h' : ColsAt G cas2 cols2) : ColsAt G (cas ++ cas2) (cols ++ cols2) := by
  obtain ⟨h1, h2⟩ := h
  refine ⟨by simp [h1, h'.1], fun i x hx => ?_⟩
  by_cases hi : i < cas.length
  · rw [List.getElem?_append_left hi] at hx
    rw [List.getElem?_append_left (by omega)]
    exact h2 i x hx
  · rw [List.getElem?_append_right (by omega)] at hx
    rw [List.getElem?_append_right (by omega), ← h1]
    exact h'.2 _ x hx
/-! ### the turn, from its end -/
theorem law_16 {r : Addr} {zs : List Str} {k : Nat} (S : SF K) (f : LF ys cols cols2 m m2) (w : LA K G p c l d d2 a a2 n ys cols cols2) (hR : SheetAt K G r zs (rowsOf cols k)) (ok : RowsOk zs (rowsOf cols k)) (lay : ∀ y ∈ zs, okV (.str y) = true) (hne : ys ≠ zs) (hn : n + 200 < 1152921504606846976)
    (hD : ∀ σ G', (∃ x12 x13 x14 x15 x16, σ = sl s p l d d2 a a2 q h i m m2 x12 x13 x14 x15 x16) → PenAt G' p c (n + 60) → LamX.Tabs (TB K) G' → D.nx σ G') :
    t_law_16 K E D (sl s p l d d2 a a2 q h i m m2 x12 x13 x14 (some (.ref r)) x16) G := by
  have hm : cols.length ≤ 400000 := by
    have := f.len
    have := f.m3
    omega
  refine ⟨w.tab, fun G3 e3 T3 => ⟨S.xf, ?_⟩⟩
  have w3 := w.lam e3 T3
  have hR3 := hR.extN e3
  obtain ⟨dxa, _, _, _, ea, _⟩ := id w3.sh
  obtain ⟨dxr, _, _, _, er, _⟩ := id hR3
  refine ⟨dxa, _, dxr, _, ea, er, a, r, ys, _, zs, _, rfl, w3.sh, hR3, f.rok hm, ok, fun s hs => by rw [f.rlen s hs]; exact hm, fun s hs => ?_, f.lay, lay, S.rk, fun _ => ?_, fun z => absurd z hne⟩
  · obtain ⟨j, _, rfl⟩ := List.mem_map.mp hs
    rw [rowTxt_len]
    exact hm
  refine .inr (.inr (.inr ⟨rfl, rfl, fun p1 np1 => ⟨(show 3 ≤ sizeLine by decide), fun p2 np2 => ?_⟩⟩))
  have e4 : Ext G3 (upd G3 p1 (.tup [.str "other", .non, .bl true])) := Ext.new np1
  have e5 : Ext (upd G3 p1 (.tup [.str "other", .non, .bl true])) (upd (upd G3 p1 (.tup [.str "other", .non, .bl true])) p2 (.tup [.str "other", .non, .bl true])) := Ext.new np2
  have w5 := (w3.ext e4).ext e5
  refine same_due rfl rfl (by decide +kernel) (e5 _ _ upd_same) upd_same ?_
  refine ⟨p, c, l, n, ys, rfl, w5.pen, by omega, w5.trk, f.nd, f.nm, f.one, f.three, w5.tab, S, fun G6 P6 T6 => brF rfl ?_⟩
  exact hD _ _ ⟨_, _, _, _, _, rfl⟩ (P6.mono (by omega)) T6
theorem LF.c4 (f : LF ys cols cols2 m m2) : cols.length ≤ 400000 := by
  have := f.len
  have := f.m3
  omega
theorem LF.c42 (f : LF ys cols cols2 m m2) : cols2.length ≤ 400000 := by
  have := f.len2
  have := f.n3
  omega
theorem LF.ne (f : LF ys cols cols2 m m2) : 1 ≤ cols.length := by
  have := f.len
  have := f.m1
  omega
theorem LF.ne2 (f : LF ys cols cols2 m m2) : 1 ≤ cols2.length := by
  have := f.len2
  have := f.n1
  omega
theorem law_15 (S : SF K) (f : LF ys cols cols2 m m2) (w : LA K G p c l d d2 a a2 n ys cols cols2) (hn : n + 200 < 1152921504606846976)
    (hD : ∀ σ G', (∃ x12 x13 x14 x15 x16, σ = sl s p l d d2 a a2 q h i m m2 x12 x13 x14 x15 x16) → PenAt G' p c (n + 60) → LamX.Tabs (TB K) G' → D.nx σ G') :
    t_law_15 K E D (sl s p l d d2 a a2 q h i m m2 x12 x13 x14 x15 x16) G := by
  refine fun d' nd' => ?_
  have e1 : Ext G (upd G d' (.dK [])) := Ext.new nd'
  have g1 : (upd G d' (.dK [])) d' = some (.dK []) := upd_same
  generalize upd G d' (.dK []) = G1 at e1 g1 ⊢
  have m4 := f.c4
  have fin : ∀ (zs : List Str) (u : Addr) (G2 : Hp), Ext G G2 → G2 u = some (.lst (zs.map V.str)) → G2 d' = some (.dK []) → zs.length = ys.length → (∀ z ∈ zs, nameOk z = true ∧ okV (.str z) = true) → zs.Nodup → ys ≠ zs → ∀ (cc : Addr) (cas : List Addr), G2 cc = some (.lst (cas.map V.ref)) → ColsAt G2 cas cols →
      sp_sheet_text K [.ref d'] (upd G2 d' (.dK (mergeK [] [(Sum.inr "tracks", .ref u), (Sum.inr "cols", .ref cc)]))) (fun v H1 => ∀ x dx, H1 x = none → H1 dx = none → dx ≠ x → sp_Sheet_init K [.ref x, v] (upd (upd H1 dx (.own x)) x (.ins (He.ga K "Sheet") dx [])) (fun v H2 => v = .non ∧ t_law_16 K E D (sl s p l d d2 a a2 q h i m m2 x12 x13 x14 (some (.ref x)) x16) H2) (fun _ _ _ => False)) E0 := fun zs u G2 e2 hu hd lz nz ndz hne cc cas hc hC => by
    have okz : ColOk zs.length cols := by rw [lz]; exact f.ok
    have ds : SheetC (upd G2 d' (.dK (mergeK [] [(Sum.inr "tracks", .ref u), (Sum.inr "cols", .ref cc)]))) d' zs cols := disp_sheet hu hc hC hd
    have e3 : Ext G (upd G2 d' (.dK (mergeK [] [(Sum.inr "tracks", .ref u), (Sum.inr "cols", .ref cc)]))) := e2.mut nd'
    have sh : ShOk zs (rowsOf cols zs.length) cols.length := shOk_plain ndz (fun z hz => (nz z hz).1) (by rw [lz]; exact f.one) (by rw [lz]; exact f.three) f.ne (by have := f.len; have := f.m3; omega)
    refine ⟨d', zs, cols, rfl, ds, okz, fun z hz => nameOk_12 (nz z hz).1, by rw [lz]; exact f.three, by omega, fun G3 e4 => make_sheet S sh (by have := f.len; have := f.m3; omega) fun r G4 e5 nr hR => ?_⟩
    refine law_16 (E := E) S f (w.ext ((e3.trans e4).trans e5)) hR ⟨len_rowsOf.symm, by rw [lz]; exact f.three, fun z hz => nameOk_12 (nz z hz).1, fun x hx => ?_⟩ (fun z hz => (nz z hz).2) hne hn hD
    obtain ⟨k, _, rfl⟩ := List.mem_map.mp hx
    rw [rowTxt_len]
    omega
  have w1 := w.ext e1
  refine ⟨_, .inl (SqL.of w1.trk), brD (fun hlt => ⟨_, SqL.of w1.trk, .inr rfl, fun u nu => ?_⟩) fun hge => ⟨(show 1 ≤ sizeLine by decide), fun u nu => ?_⟩⟩
  · have e2 : Ext G1 (upd G1 u (.lst (ys.map V.str).reverse)) := Ext.new nu
    have hu : (upd G1 u (.lst (ys.map V.str).reverse)) u = some (.lst (ys.reverse.map V.str)) := by rw [upd_same, List.map_reverse]
    have w2 := w1.ext e2
    have g2 := e2 _ _ g1
    obtain ⟨t, cc, cas, h1, h2, h3, h4⟩ := w2.pl
    have lt2 : 1 < ys.length := by
      have z : (1 : Int) < (((ys.map V.str).length : Nat) : Int) := hlt
      rw [List.length_map] at z
      omega
    refine ⟨_, .ref cc, .inl h1, sh_cols, g2, [(Sum.inr "tracks", .ref u), (Sum.inr "cols", .ref cc)], rfl, (show 2 ≤ 15 by decide), fin ys.reverse u _ (e1.trans e2) hu g2 (List.length_reverse) (fun z hz => ?_) (List.pairwise_reverse.mpr (f.nd.imp fun h => h.symm)) (fun z => ?_) cc cas h3 h4⟩
    · have hm := List.mem_reverse.mp hz
      exact ⟨names_ok' z (f.nm z hm), f.lay z hm⟩
    · have z0 : ys[0]? = ys.reverse[0]? := congrArg (fun l : List Str => l[0]?) z
      rw [List.getElem?_reverse (by omega), List.getElem?_eq_getElem (by omega), List.getElem?_eq_getElem (by omega)] at z0
      have := (List.getElem_inj f.nd).mp (Option.some.inj z0)
      omega
  · have e2 : Ext G1 (upd G1 u (.lst [.str "zz"])) := Ext.new nu
    have w2 := w1.ext e2
    have g2 := e2 _ _ g1
    obtain ⟨t, cc, cas, h1, h2, h3, h4⟩ := w2.pl
    have lt2 : ys.length = 1 := by
      have z : ¬ (1 : Int) < (((ys.map V.str).length : Nat) : Int) := hge
      rw [List.length_map] at z
      have := f.one
      omega
    refine ⟨_, .ref cc, .inl h1, sh_cols, g2, [(Sum.inr "tracks", .ref u), (Sum.inr "cols", .ref cc)], rfl, (show 2 ≤ 15 by decide), fin ["zz"] u _ (e1.trans e2) upd_same g2 (by rw [lt2]; rfl) (fun z hz => ?_) (by decide) (fun z => ?_) cc cas h3 h4⟩
    · rw [show z = "zz" by simpa using hz]
      decide +kernel
    · have := f.nm "zz" (by rw [z]; simp)
      revert this
      decide +kernel
theorem law_14 (S : SF K) (f : LF ys cols cols2 m m2) (w : LA K G p c l d d2 a a2 n ys cols cols2) (hn : n + 200 < 1152921504606846976)
    (hD : ∀ σ G', (∃ x12 x13 x14 x15 x16, σ = sl s p l d d2 a a2 q h i m m2 x12 x13 x14 x15 x16) → PenAt G' p c (n + 60) → LamX.Tabs (TB K) G' → D.nx σ G') :
    t_law_14 K E D (sl s p l d d2 a a2 q h i m m2 x12 x13 x14 x15 x16) G := by
  have m4 := f.c4
  have m42 := f.c42
  obtain ⟨dxa, _, _, _, ea, _⟩ := id w.sh
  obtain ⟨dxb, _, _, _, eb, _⟩ := id w.sh2
  refine ⟨dxa, _, dxb, _, ea, eb, add_sp S f w.sh w.sh2 m4 m42 fun b G1 e1 nb hb => ?_⟩
  obtain ⟨dxc, _, _, _, ec, _⟩ := id hb
  have hl : (rowTxt (cols ++ cols2) 0).length = m + m2 := by rw [rowTxt_len, List.length_append, f.len, f.len2]
  have := f.m3
  have := f.n3
  refine ⟨dxc, _, ec, b, ys, _, rowTxt (cols ++ cols2) 0, rfl, hb, rowsOf_at f.one, by omega, ⟨by omega, by omega⟩, ?_⟩
  rw [hl]
  refine brF ?_ ?_
  · have : ((m + m2 : Nat) : Int) = (m : Int) + (m2 : Int) := by omega
    show (!decide (((m + m2 : Nat) : Int) = (m : Int) + (m2 : Int))) = false
    rw [this]
    simp
  have w1 := w.ext e1
  obtain ⟨dxa', _, _, _, ea', _⟩ := id w1.sh
  refine ⟨_, dxa', _, _, ea', rfl, rfl, d, ys, cols, rfl, w1.pl, f.ok, f.short, f.three, by omega, fun G2 e2 => brF (ne_of rfl) ?_⟩
  exact law_15 (E := E) S f (w1.ext e2) hn hD
theorem law_13 {j : Addr} (S : SF K) (f : LF ys cols cols2 m m2) (w : LA K G p c l d d2 a a2 n ys cols cols2) (hj : SheetC G j ys (cols ++ cols2)) (hn : n + 200 < 1152921504606846976)
    (hD : ∀ σ G', (∃ x12 x13 x14 x15 x16, σ = sl s p l d d2 a a2 q h i m m2 x12 x13 x14 x15 x16) → PenAt G' p c (n + 60) → LamX.Tabs (TB K) G' → D.nx σ G') :
    t_law_13 K E D (sl s p l d d2 a a2 q h i m m2 x12 x13 (some (.ref j)) x15 x16) G := by
  have m4 := f.c4
  have m42 := f.c42
  have := f.len
  have := f.len2
  have := f.m3
  have := f.n3
  have := f.ne
  have l12 : (cols ++ cols2).length ≤ 400000 := by rw [List.length_append]; omega
  obtain ⟨dxa, _, _, _, ea, _⟩ := id w.sh
  obtain ⟨dxb, _, _, _, eb, _⟩ := id w.sh2
  refine ⟨dxa, _, dxb, _, ea, eb, add_sp S f w.sh w.sh2 m4 m42 fun b G1 e1 nb hb => ?_⟩
  refine ⟨b, j, ys, cols ++ cols2, rfl, hb, hj.ext e1, f.pf (colOk_cat f.ok f.ok2) (by rw [List.length_append]; omega) l12, fun G2 e2 => brF rfl ?_⟩
  have w2 := w.ext (e1.trans e2)
  obtain ⟨dxa, _, _, _, ea, _⟩ := id w2.sh
  obtain ⟨dxb, _, _, _, eb, _⟩ := id w2.sh2
  refine ⟨dxa, _, dxb, _, ea, eb, add_sp S f w2.sh w2.sh2 m4 m42 fun b1 G3 e3 nb1 hb1 => ?_⟩
  obtain ⟨dx1, _, _, _, f1, _⟩ := id hb1
  refine ⟨dx1, _, f1, inv_sp S f hb1 l12 fun b2 G4 e4 nb2 hb2 => ?_⟩
  have w4 := w2.ext (e3.trans e4)
  obtain ⟨dx2, _, _, _, f2, _⟩ := id w4.sh2
  refine ⟨dx2, _, f2, inv_sp S f w4.sh2 m42 fun b3 G5 e5 nb3 hb3 => ?_⟩
  have w5 := w4.ext e5
  obtain ⟨dx3, _, _, _, f3, _⟩ := id w5.sh
  refine ⟨dx3, _, f3, inv_sp S f w5.sh m4 fun b4 G6 e6 nb4 hb4 => ?_⟩
  have hb3' := hb3.ext e6
  obtain ⟨dx4, _, _, _, f4, _⟩ := id hb3'
  obtain ⟨dx5, _, _, _, f5, _⟩ := id hb4
  refine ⟨dx4, _, dx5, _, f4, f5, add_sp S f hb3' hb4 (by rw [List.length_reverse]; exact m42) (by rw [List.length_reverse]; exact m4) fun b5 G7 e7 nb5 hb5 => ?_⟩
  have hb2' := ((hb2.ext e5).ext e6).ext e7
  obtain ⟨dx6, _, _, _, f6, _⟩ := id hb2'
  obtain ⟨dx7, _, _, _, f7, _⟩ := id hb5
  refine ⟨dx6, _, dx7, _, f6, f7, b2, b5, ys, _, ys, _, rfl, hb2', hb5, S.pc, S.kS, ?_⟩
  refine brF (ne_of (by rw [List.reverse_append])) ?_
  exact law_14 (E := E) S f ((w5.ext e6).ext e7) hn hD
theorem law_12 (S : SF K) (f : LF ys cols cols2 m m2) (w : LA K G p c l d d2 a a2 n ys cols cols2) (hn : n + 200 < 1152921504606846976)
    (hD : ∀ σ G', (∃ x12 x13 x14 x15 x16, σ = sl s p l d d2 a a2 q h i m m2 x12 x13 x14 x15 x16) → PenAt G' p c (n + 60) → LamX.Tabs (TB K) G' → D.nx σ G') :
    t_law_12 K E D (sl s p l d d2 a a2 q h i m m2 x12 x13 x14 x15 x16) G := by
  refine fun d' nd' => ?_
  have e1 : Ext G (upd G d' (.dK [])) := Ext.new nd'
  have g1 : (upd G d' (.dK [])) d' = some (.dK []) := upd_same
  generalize upd G d' (.dK []) = G1 at e1 g1 ⊢
  have w1 := w.ext e1
  obtain ⟨t, cc, cas, h1, h2, h3, h4⟩ := w1.pl
  obtain ⟨t', cc', cas', h1', h2', h3', h4'⟩ := w1.pl2
  have := f.len
  have := f.len2
  have := f.m3
  have := f.n3
  have c1 := h4.1
  have c2 := h4'.1
  refine ⟨_, .ref cc, .inl h1, sh_cols, _, .ref cc', .inl h1', sh_cols, _, _, h3, h3', by rw [List.length_map, List.length_map, sizeLine_eq]; omega, fun u nu => ?_⟩
  have e2 : Ext G1 (upd G1 u (.lst (cas.map V.ref ++ cas'.map V.ref))) := Ext.new nu
  have hu : (upd G1 u (.lst (cas.map V.ref ++ cas'.map V.ref))) u = some (.lst ((cas ++ cas').map V.ref)) := by rw [upd_same, List.map_append]
  refine ⟨e2 _ _ g1, [(Sum.inr "tracks", .ref l), (Sum.inr "cols", .ref u)], rfl, (show 2 ≤ 15 by decide), ?_⟩
  refine law_13 (E := E) S f (w.ext ((e1.trans e2).mut nd')) (disp_sheet (e2 _ _ w1.trk) hu ((h4.ext e2).cat (h4'.ext e2)) (e2 _ _ g1)) hn hD
theorem law_11 (S : SF K) (f : LF ys cols cols2 m m2) (w : LA K G p c l d d2 a a2 n ys cols cols2) (hn : n + 200 < 1152921504606846976)
    (hD : ∀ σ G', (∃ x12 x13 x14 x15 x16, σ = sl s p l d d2 a a2 q h i m m2 x12 x13 x14 x15 x16) → PenAt G' p c (n + 60) → LamX.Tabs (TB K) G' → D.nx σ G') :
    t_law_11 K E D (sl s p l d d2 a a2 q h i m m2 x12 x13 x14 x15 x16) G := by
  have m4 := f.c4
  have m1 := f.ne
  obtain ⟨dxa, _, _, _, ea, _⟩ := id w.sh
  refine ⟨dxa, _, ea, inv_sp S f w.sh m4 fun b G1 e1 nb hb => fun d' nd' => ?_⟩
  have e2 : Ext G1 (upd G1 d' (.dK [])) := Ext.new nd'
  have g2 : (upd G1 d' (.dK [])) d' = some (.dK []) := upd_same
  generalize upd G1 d' (.dK []) = G2 at e2 g2 ⊢
  have w2 := w.ext (e1.trans e2)
  obtain ⟨t, cc, cas, h1, h2, h3, h4⟩ := w2.pl
  refine ⟨_, .ref cc, .inl h1, sh_cols, _, SqL.of h3, .inr rfl, fun u nu => ?_⟩
  have e3 : Ext G2 (upd G2 u (.lst (cas.map V.ref).reverse)) := Ext.new nu
  have hu : (upd G2 u (.lst (cas.map V.ref).reverse)) u = some (.lst (cas.reverse.map V.ref)) := by rw [upd_same, List.map_reverse]
  refine ⟨e3 _ _ g2, [(Sum.inr "tracks", .ref l), (Sum.inr "cols", .ref u)], rfl, (show 2 ≤ 15 by decide), ?_⟩
  have e4 : Ext G1 (upd (upd G2 u (.lst (cas.map V.ref).reverse)) d' (.dK (mergeK [] [(Sum.inr "tracks", .ref l), (Sum.inr "cols", .ref u)]))) := (e2.trans e3).mut nd'
  have ds := disp_sheet (G := upd G2 u (.lst (cas.map V.ref).reverse)) (ys := ys) (l := l) (e3 _ _ w2.trk) hu (h4.ext e3).rev (e3 _ _ g2)
  refine ⟨b, d', ys, cols.reverse, rfl, hb.ext e4, ds, f.pf (colOk_rev f.ok) (by rw [List.length_reverse]; exact m1) (by rw [List.length_reverse]; exact m4), fun G5 e5 => brF rfl ?_⟩
  have w5 := w.ext ((e1.trans e4).trans e5)
  obtain ⟨dx5, _, _, _, f5, _⟩ := id w5.sh
  refine ⟨dx5, _, f5, inv_sp S f w5.sh m4 fun b2 G6 e6 nb2 hb2 => ?_⟩
  obtain ⟨dx6, _, _, _, f6, _⟩ := id hb2
  refine ⟨dx6, _, f6, inv_sp S f hb2 (by rw [List.length_reverse]; exact m4) fun b3 G7 e7 nb3 hb3 => ?_⟩
  have w7 := w5.ext (e6.trans e7)
  obtain ⟨dx7, _, _, _, f7, _⟩ := id hb3
  obtain ⟨dx8, _, _, _, f8, _⟩ := id w7.sh
  refine ⟨dx7, _, dx8, _, f7, f8, b3, a, ys, _, ys, _, rfl, hb3, w7.sh, S.pc, S.kS, ?_⟩
  refine brF (ne_of (by rw [List.reverse_reverse])) ?_
  exact law_12 (E := E) S f w7 hn hD
theorem law_10 (S : SF K) (f : LF ys cols cols2 m m2) (w : LA K G p c l d d2 a a2 n ys cols cols2) (hn : n + 200 < 1152921504606846976)
    (hD : ∀ σ G', (∃ x12 x13 x14 x15 x16, σ = sl s p l d d2 a a2 q h i m m2 x12 x13 x14 x15 x16) → PenAt G' p c (n + 60) → LamX.Tabs (TB K) G' → D.nx σ G') :
    t_law_10 K E D (sl s p l d d2 a a2 q h i m m2 x12 x13 x14 x15 x16) G := by
  have m4 := f.c4
  refine ⟨w.tab, fun G3 e3 T3 => ⟨S.xf, ?_⟩⟩
  have w3 := w.lam e3 T3
  obtain ⟨dxa, _, _, _, ea, _⟩ := id w3.sh
  refine ⟨dxa, _, ea, rfl, Nat.zero_le _, fun u nu => ?_⟩
  have e4 : Ext G3 (upd G3 u (.lst [])) := Ext.new nu
  have w4 := w3.ext e4
  refine ⟨a, u, ys, _, [], cols.length, rfl, w4.sh, f.rok m4, f.one, f.rlen, m4, .inl upd_same, Nat.zero_le _, S.rk, fun c (hc : ([] : List Int).find? (offS cols.length) = some c) => (by cases hc), fun _ dd G5 e5 nd5 hd5 => ?_, fun _ z => absurd rfl z⟩
  refine .inr (.inl ⟨rfl, dd, _, rfl, hd5, fun p1 np1 => ⟨(show 3 ≤ sizeLine by decide), fun p2 np2 => ?_⟩⟩)
  have e6 : Ext G5 (upd G5 p1 (.tup [.str "count", .int 0, .bl true])) := Ext.new np1
  have e7 : Ext (upd G5 p1 (.tup [.str "count", .int 0, .bl true])) (upd (upd G5 p1 (.tup [.str "count", .int 0, .bl true])) p2 (.tup [.str "count", .int 0, .bl true])) := Ext.new np2
  refine same_due rfl rfl (by decide +kernel) (e7 _ _ upd_same) upd_same ?_
  exact law_11 (E := E) S f (((w4.ext e5).ext e6).ext e7) hn hD
theorem cutV_from {xs : List V} {k : Nat} (h : k ≤ xs.length) : cutV xs (some ((k : Nat) : Int)) none = xs.drop k := by
  unfold cutV
  rw [HT.sIx_nat, HT.sIx_none, Nat.min_eq_left h]
  exact List.take_of_length_le (by rw [List.length_drop]; exact Nat.le_refl _)
theorem law_9 {j : Nat} {far : Int} (S : SF K) (f : LF ys cols cols2 m m2) (w : LA K G p c l d d2 a a2 n ys cols cols2) (hq : G q = some (.lst (cs.map V.int))) (hc : cs.length ≤ 20) (hin : ∀ k ∈ cs, 0 ≤ k ∧ k < (cols.length : Int)) (hj : j ≤ cs.length) (hf : ¬ (0 ≤ far ∧ far < (m : Int))) (hn : n + 200 < 1152921504606846976)
    (hD : ∀ σ G', (∃ x12 x13 x14 x15 x16, σ = sl s p l d d2 a a2 q h i m m2 x12 x13 x14 x15 x16) → PenAt G' p c (n + 60) → LamX.Tabs (TB K) G' → D.nx σ G') :
    t_law_9 K E D (sl s p l d d2 a a2 q h i m m2 (some (.int (j : Nat))) (some (.int far)) x14 x15 x16) G := by
  have m4 := f.c4
  refine ⟨w.tab, fun G3 e3 T3 => ⟨S.xf, ?_⟩⟩
  have w3 := w.lam e3 T3
  have hq3 := e3 _ _ hq (by intro _ z; cases z)
  obtain ⟨dxa, _, _, _, ea, _⟩ := id w3.sh
  have ec1 := cutV_to (xs := cs.map V.int) (k := j) (by rw [List.length_map]; exact hj)
  have ec2 := cutV_from (xs := cs.map V.int) (k := j) (by rw [List.length_map]; exact hj)
  rw [← List.map_take] at ec1
  rw [← List.map_drop] at ec2
  refine ⟨dxa, _, ea, rfl, _, rfl, _, SqL.of hq3, fun u1 n1 => ⟨(show 2 ≤ sizeLine by decide), fun u2 n2 => ?_⟩⟩
  rw [ec1] at n2 ⊢
  have e4 : Ext G3 (upd G3 u1 (.lst ((cs.take j).map V.int))) := Ext.new n1
  have g1 : (upd G3 u1 (.lst ((cs.take j).map V.int))) u1 = some (.lst ((cs.take j).map V.int)) := upd_same
  generalize upd G3 u1 (.lst ((cs.take j).map V.int)) = G4 at e4 g1 n2 ⊢
  have e5 : Ext G4 (upd G4 u2 (.lst [.int far, .int (-9)])) := Ext.new n2
  have g2 : (upd G4 u2 (.lst [.int far, .int (-9)])) u2 = some (.lst [.int far, .int (-9)]) := upd_same
  have hlt : ((cs.take j).map V.int).length ≤ 20 := by rw [List.length_map, List.length_take]; omega
  refine ⟨_, _, e5 _ _ g1, g2, by rw [sizeLine_eq]; show _ + 2 ≤ _; omega, fun u3 n3 => ?_⟩
  generalize upd G4 u2 (.lst [.int far, .int (-9)]) = G5 at e5 g2 n3 ⊢
  have e6 : Ext G5 (upd G5 u3 (.lst ((cs.take j).map V.int ++ [.int far, .int (-9)]))) := Ext.new n3
  have g3 : (upd G5 u3 (.lst ((cs.take j).map V.int ++ [.int far, .int (-9)]))) u3 = some (.lst ((cs.take j).map V.int ++ [.int far, .int (-9)])) := upd_same
  generalize upd G5 u3 (.lst ((cs.take j).map V.int ++ [.int far, .int (-9)])) = G6 at e6 g3 ⊢
  have e36 := (e4.trans e5).trans e6
  refine ⟨_, rfl, _, SqL.of (e36 _ _ hq3), fun u4 n4 => ?_⟩
  rw [ec2]
  have e7 : Ext G6 (upd G6 u4 (.lst ((cs.drop j).map V.int))) := Ext.new n4
  have g4 : (upd G6 u4 (.lst ((cs.drop j).map V.int))) u4 = some (.lst ((cs.drop j).map V.int)) := upd_same
  have hld : ((cs.drop j).map V.int).length ≤ 20 := by rw [List.length_map, List.length_drop]; omega
  refine ⟨_, _, e7 _ _ g3, g4, by rw [List.length_append, sizeLine_eq]; show _ + 2 + _ ≤ _; omega, fun u5 n5 => ?_⟩
  generalize upd G6 u4 (.lst ((cs.drop j).map V.int)) = G7 at e7 g4 n5 ⊢
  have e8 : Ext G7 (upd G7 u5 (.lst ((cs.take j).map V.int ++ [.int far, .int (-9)] ++ (cs.drop j).map V.int))) := Ext.new n5
  have g5 : (upd G7 u5 (.lst ((cs.take j).map V.int ++ [.int far, .int (-9)] ++ (cs.drop j).map V.int))) u5 = some (.lst ((cs.take j ++ [far, -9] ++ cs.drop j).map V.int)) := by
    rw [upd_same, List.map_append, List.map_append]
    rfl
  generalize upd G7 u5 (.lst ((cs.take j).map V.int ++ [.int far, .int (-9)] ++ (cs.drop j).map V.int)) = G8 at e8 g5 ⊢
  have w8 := w3.ext ((e36.trans e7).trans e8)
  have hfind : (cs.take j ++ [far, -9] ++ cs.drop j).find? (offS cols.length) = some far := by
    have h1 : (cs.take j).find? (offS cols.length) = none := off_none fun k hk => hin k (List.mem_of_mem_take hk)
    have h2 : offS cols.length far = true := by
      unfold offS
      rw [f.len]
      have : ¬ (0 ≤ far ∧ far < (m : Int)) := hf
      by_cases z : 0 ≤ far
      · have z2 : ¬ far < (m : Int) := fun y => this ⟨z, y⟩
        simp [z2]
      · simp [z]
    rw [List.append_assoc, List.find?_append, h1]
    simp [h2]
  refine ⟨a, u5, ys, _, _, cols.length, rfl, w8.sh, f.rok m4, f.one, f.rlen, m4, .inl g5, ?_, S.rk, fun c' hc' dd G9 e9 nd9 hd9 => ?_, fun z => ?_, fun z => ?_⟩
  · rw [List.length_append, List.length_append, List.length_take, List.length_drop]
    show _ + 2 + _ ≤ _
    omega
  · have ecf : c' = far := Option.some.inj (hc'.symm.trans hfind)
    subst ecf
    refine .inl ⟨rfl, dd, _, rfl, hd9, fun p1 np1 => ⟨(show 3 ≤ sizeLine by decide), fun p2 np2 => ?_⟩⟩
    have e10 : Ext G9 (upd G9 p1 (.tup [.str "column", .int c', .bl true])) := Ext.new np1
    have e11 : Ext (upd G9 p1 (.tup [.str "column", .int c', .bl true])) (upd (upd G9 p1 (.tup [.str "column", .int c', .bl true])) p2 (.tup [.str "column", .int c', .bl true])) := Ext.new np2
    refine same_due rfl rfl (by decide +kernel) (e11 _ _ upd_same) upd_same ?_
    exact law_10 (E := E) S f (((w8.ext e9).ext e10).ext e11) hn hD
  · have : (cs.take j ++ [far, -9] ++ cs.drop j).length = 0 := by rw [z]; rfl
    rw [List.length_append, List.length_append] at this
    have h2 : ([far, -9] : List Int).length = 2 := rfl
    omega
  · rw [hfind] at z
    cases z
theorem pow20 : CPow 10 20 := by unfold CPow; decide
theorem law_8 (S : SF K) (f : LF ys cols cols2 m m2) (w : LA K G p c l d d2 a a2 n ys cols cols2) (hq : G q = some (.lst (cs.map V.int))) (hc : cs.length ≤ 20) (hin : ∀ k ∈ cs, 0 ≤ k ∧ k < (cols.length : Int)) (hn : n + 250 < 1152921504606846976)
    (hD : ∀ σ G', (∃ x12 x13 x14 x15 x16, σ = sl s p l d d2 a a2 q h i m m2 x12 x13 x14 x15 x16) → PenAt G' p c (n + 62) → LamX.Tabs (TB K) G' → D.nx σ G') :
    t_law_8 K E D (sl s p l d d2 a a2 q h i m m2 x12 x13 x14 x15 x16) G := by
  refine ⟨_, .inl (SqL.of hq), p, c, n, _, rfl, w.pen, by omega, by rw [List.length_map]; omega, ?_, fun j G1 j0 j1 k1 P1 => ⟨pow20, (show 4 ≤ sizeLine by decide), fun u nu => ?_⟩⟩
  · rw [show ((((cs.map V.int).length : Nat) : Int) + 1) = ((cs.length + 1 : Nat) : Int) by
      rw [List.length_map]
      omega]
    exact log_small (by omega)
  rw [List.length_map] at j1
  have w1 := (w.kp f k1 P1).ext (Ext.new nu (o := .lst [.int (-1), .int (m : Int), .int (10 ^ (20 : Int).toNat), .int (-(m : Int))]))
  refine ⟨p, c, u, n + 1, _, rfl, w1.pen, by omega, upd_same, (show 0 < 4 by decide), (show 4 < 1000000000 by decide), fun v G2 hv k2 P2 => ⟨(show 2 ≤ sizeLine by decide), fun T nT => ⟨T, _, rfl, SqT.of upd_same, rfl, _, _, rfl, _, _, rfl, rfl, ?_⟩⟩⟩
  have hm3 := f.m3
  have hm1 := f.m1
  obtain ⟨far, rfl, nf⟩ : ∃ far : Int, v = .int far ∧ ¬ (0 ≤ far ∧ far < (m : Int)) := by
    simp only [List.mem_cons, List.not_mem_nil, or_false] at hv
    rcases hv with rfl | rfl | rfl | rfl
    · exact ⟨_, rfl, by omega⟩
    · exact ⟨_, rfl, by omega⟩
    · refine ⟨_, rfl, fun z => ?_⟩
      have : (300 : Int) < 10 ^ (20 : Int).toNat := by decide
      omega
    · exact ⟨_, rfl, by omega⟩
  obtain ⟨jn, rfl⟩ := Int.eq_ofNat_of_zero_le j0
  have w2 := (w1.kp f k2 P2).ext (Ext.new nT (o := .tup [.int ((jn : Nat) : Int), .int far]))
  have hq2 := (Ext.new nT (o := .tup [.int ((jn : Nat) : Int), .int far])) _ _ (k2.lst ((Ext.new nu (o := .lst [.int (-1), .int (m : Int), .int (10 ^ (20 : Int).toNat), .int (-(m : Int))])) _ _ (k1.lst hq)))
  exact law_9 (E := E) S f w2 hq2 hc hin (by omega) nf (by omega) fun σ G' hσ P' T' => hD σ G' hσ (P'.mono (by omega)) T'
theorem law_7 (S : SF K) (f : LF ys cols cols2 m m2) (w : LA K G p c l d d2 a a2 n ys cols cols2) (hq : G q = some (.lst (cs.map V.int))) (hc : cs.length ≤ 20) (c0 : cs ≠ []) (hin : ∀ k ∈ cs, 0 ≤ k ∧ k < (cols.length : Int)) (hn : n + 250 < 1152921504606846976)
    (hD : ∀ σ G', (∃ x12 x13 x14 x15 x16, σ = sl s p l d d2 a a2 q h i m m2 x12 x13 x14 x15 x16) → PenAt G' p c (n + 62) → LamX.Tabs (TB K) G' → D.nx σ G') :
    t_law_7 K E D (sl s p l d d2 a a2 q h i m m2 x12 x13 x14 x15 x16) G := by
  obtain ⟨dxa, _, _, _, ea, _⟩ := id w.sh
  refine ⟨dxa, _, ea, rfl, _, .inl ⟨SqL.of hq, fun u nu => ?_⟩⟩
  have e1 : Ext G (upd G u (.tup (cs.map V.int))) := Ext.new nu
  dsimp only [tCons, tNil]
  refine cut_sp S f (w.ext e1).sh (.inr upd_same) (by omega) c0 hin fun ks pw mem b G1 e2 nb hb => ?_
  have e12 := e1.trans e2
  have w2 := w.ext e12
  obtain ⟨dx2, _, _, _, f2, _⟩ := id w2.sh
  refine ⟨dx2, _, f2, rfl, cs, SqL.of (e12 _ _ hq), fun ms u2 perm srt nu2 => ?_⟩
  have e3 : Ext G1 (upd G1 u2 (.lst (ms.map V.int))) := Ext.new nu2
  dsimp only [tCons, tNil]
  refine cut_sp S f (w2.ext e3).sh (.inl upd_same) (by rw [perm.length_eq]; omega) (fun z => c0 (by rw [z] at perm; exact List.nil_perm.mp perm)) (fun k hk => hin k (perm.mem_iff.mp hk)) fun ks2 pw2 mem2 b2 G3 e4 nb2 hb2 => ?_
  have ek : ks = ks2 := sorted_same pw pw2 fun k => by rw [mem k, mem2 k, perm.mem_iff]
  subst ek
  have e34 := e3.trans e4
  have hb' := hb.ext e34
  obtain ⟨dx3, _, _, _, f3, _⟩ := id hb'
  obtain ⟨dx4, _, _, _, f4, _⟩ := id hb2
  refine ⟨dx3, _, dx4, _, f3, f4, b, b2, ys, _, ys, _, rfl, hb', hb2, S.pc, S.kS, brF (ne_of rfl) ?_⟩
  have w4 := w2.ext e34
  obtain ⟨dx5, _, _, _, f5, _⟩ := id w4.sh
  have hm3 := f.m3
  have hm1 := f.m1
  refine ⟨dx5, _, f5, rfl, RgOk.of_le (by decide) (by omega) (by decide) (by omega), fun u3 nu3 => ?_⟩
  have e5 : Ext G3 (upd G3 u3 (.lst (rgV 0 (m : Int)))) := Ext.new nu3
  have eu : rgV 0 (m : Int) = (upto m).map V.int := by
    unfold rgV upto
    rw [List.map_map]
    have : ((m : Int) - 0).toNat = m := by omega
    rw [this]
    exact List.map_congr_left fun k _ => by
      show V.int (0 + ((k : Nat) : Int)) = V.int ((k : Nat) : Int)
      rw [Int.zero_add]
  dsimp only [tCons, tNil]
  refine cut_sp S f (w4.ext e5).sh (cs := upto m) (.inl (by rw [upd_same, eu])) (by simp [upto]; omega) (fun z => ?_) (fun k hk => by rw [f.len]; exact upto_mem.mp hk) fun ks3 pw3 mem3 b3 G5 e6 nb3 hb3 => ?_
  · have : (upto m).length = 0 := by rw [z]; rfl
    simp [upto] at this
    omega
  have ek3 : ks3 = upto cols.length := by rw [f.len]; exact sorted_same pw3 (upto_sorted m) mem3
  subst ek3
  rw [colsAt_all] at hb3
  have w6 := w4.ext (e5.trans e6)
  obtain ⟨dx6, _, _, _, f6, _⟩ := id hb3
  obtain ⟨dx7, _, _, _, f7, _⟩ := id w6.sh
  refine ⟨dx6, _, dx7, _, f6, f7, b3, a, ys, _, ys, _, rfl, hb3, w6.sh, S.pc, S.kS, brF (ne_of rfl) ?_⟩
  exact law_8 (E := E) S f w6 (((e12.trans e34).trans (e5.trans e6)) _ _ hq) hc hin hn hD
theorem law_6 (S : SF K) (f : LF ys cols cols2 m m2) (w : LA K G p c l d d2 a a2 n ys cols cols2) (hq : G q = some (.lst (cs.map V.int))) (hh : G h = some (.lst (cs.map V.int))) (hc : cs.length ≤ 20) (c0 : cs ≠ []) (hin : ∀ k ∈ cs, 0 ≤ k ∧ k < (cols.length : Int)) (hn : n + 250 < 1152921504606846976)
    (hD : ∀ σ G', (∃ x12 x13 x14 x15 x16, σ = sl s p l d d2 a a2 q h i m m2 x12 x13 x14 x15 x16) → PenAt G' p c (n + 62) → LamX.Tabs (TB K) G' → D.nx σ G') :
    t_law_6 K E D (sl s p l d d2 a a2 q h i m m2 x12 x13 x14 x15 x16) G := by
  obtain ⟨dxa, _, _, _, ea, _⟩ := id w.sh
  refine ⟨dxa, _, ea, rfl, ?_⟩
  dsimp only [tCons, tNil]
  refine yVar_at (v := .ref h) rfl ?_
  refine cut_sp S f w.sh (.inl hh) (by omega) c0 hin fun ks pw mem b G1 e1 nb hb => ?_
  have w1 := w.ext e1
  have hm3 := f.m3
  have hl := f.len
  have m4 := f.c4
  have hk : ∀ k ∈ ks, 0 ≤ k ∧ k < (cols.length : Int) := fun k hk => hin k ((mem k).mp hk)
  refine ⟨d, q, ys, cols, cs, rfl, w1.pl, by omega, e1 _ _ hq, by omega, hin, fun ks2 pw2 mem2 d' G2 e2 nd' hd' => ?_⟩
  have ek : ks = ks2 := sorted_same pw pw2 fun k => by rw [mem k, mem2 k]
  subst ek
  have lk : ks.length ≤ 20 := by
    have nd : ks.Nodup := pw.imp fun {a b} h => by omega
    have := nodup_sub_len nd (fun k hk => (mem k).mp hk)
    omega
  have kne : 1 ≤ ks.length := by
    cases cs with
    | nil => exact absurd rfl c0
    | cons x r =>
      have := (mem x).mpr (List.mem_cons_self ..)
      exact List.length_pos_of_mem this
  refine ⟨b, d', ys, _, rfl, hb.ext e2, hd', f.pf (colOk_at f.ok hk) (by simp [colsAt]; omega) (by simp [colsAt]; omega), fun G3 e3 => brF rfl ?_⟩
  have e123 := (e1.trans e2).trans e3
  refine ⟨_, _, .lst (SqL.of (e123 _ _ hh)) (dpAll_flat flat_ints), .lst (SqL.of (e123 _ _ hq)) (dpAll_flat flat_ints), shaped_flatL ok_intsL, shaped_flatL ok_intsL, ?_⟩
  rw [eqv_ints]
  refine brF rfl ?_
  exact law_7 (E := E) S f (w.ext e123) (e123 _ _ hq) hc c0 hin hn hD
theorem law_4 {x10 x11 : Option V} (S : SF K) (f : LF ys cols cols2 m m2) (w : LA K G p c l d d2 a a2 n ys cols cols2) (hn : n + 300 < 1152921504606846976)
    (hD : ∀ σ G', (∃ q h x12 x13 x14 x15 x16, σ = sl s p l d d2 a a2 q h i m m2 x12 x13 x14 x15 x16) → PenAt G' p c (n + 80) → LamX.Tabs (TB K) G' → D.nx σ G') :
    t_law_4 K E D [some s, some (.ref p), some (.int i), some (.ref l), some (.int (m : Int)), some (.int (m2 : Int)), some (.ref d), some (.ref d2), some (.ref a), some (.ref a2), x10, x11, x12, x13, x14, x15, x16] G := by
  have hm3 := f.m3
  have hm1 := f.m1
  refine ⟨p, c, n, 9, rfl, w.pen, by omega, by decide, by decide, fun r G1 r0 r1 k1 P1 => ⟨by omega, by omega, fun D' nD' => ?_⟩⟩
  have w1 := w.kp f k1 P1
  refine ⟨fun k acc G' => ∃ cs : List Int, acc = cs.map V.int ∧ cs.length = k ∧ (∀ x ∈ cs, 0 ≤ x ∧ x < (cols.length : Int)) ∧ Kp G1 G' ∧ PenAt G' p c (n + 1 + k) ∧ G' D' = some (.lst acc),
    ⟨[], rfl, rfl, (fun x hx => by cases hx), Kp.new nD', by simpa using w1.pen.new nD', upd_same⟩, fun k acc G' hk ⟨cs, b1, b2, b3, b4, b5, b6⟩ => ⟨trivial, b6, ?_⟩, ?_, ?_⟩
  · rw [b1, List.length_map, b2, sizeLine_eq]
    omega
  · rintro k x acc G0 G' hk ⟨cs, rfl, b2, b3, b4, b5, b6⟩ ⟨eG, rfl⟩
    have eG : G' = G0 := eG
    subst eG
    have hk : k < ((1 + r) : Int).toNat := hk
    refine ⟨rfl, brT rfl ⟨p, c, _, m, rfl, b5, by omega, by omega, log_small (by omega), fun r' G2 r0' r1' k2 P2 => ⟨k2.lst b6, ?_⟩⟩⟩
    refine ⟨cs ++ [r'], by rw [List.map_append]; rfl, by simp [b2], fun x hx => ?_, (b4.trans k2).mut nD', P2.mut (w1.pen.ne nD').1 (w1.pen.ne nD').2, upd_same⟩
    rcases List.mem_append.mp hx with hx | hx
    · exact b3 x hx
    · rw [show x = r' by simpa using hx, f.len]
      exact ⟨r0', r1'⟩
  · rintro acc G' ⟨cs, rfl, b2, b3, b4, b5, b6⟩
    have hk : ((1 + r) : Int).toNat ≤ 9 := by omega
    have h1 : 1 ≤ ((1 + r) : Int).toNat := by omega
    have w2 := w1.kp f b4 b5
    refine ⟨_, .inl (SqL.of b6), fun h nh => ?_⟩
    have e3 : Ext G' (upd G' h (.lst (cs.map V.int))) := Ext.new nh
    refine law_6 (E := E) (h := h) (q := D') S f (w2.ext e3) (e3 _ _ b6) upd_same (by omega) (fun z => ?_) b3 (by omega) fun σ G'' ⟨x12, x13, x14, x15, x16, hσ⟩ P' T' => hD σ G'' ⟨_, _, _, _, _, _, _, hσ⟩ (P'.mono (by omega)) T'
    rw [z] at b2
    simp at b2
    omega
end
theorem pure_law {vs : List V} {H : Hp} {Q : VK} (h : sp_law K vs H Q E0) : t_law K E0 { nx := fun _ H' => Q .non H', rt := Q } (start N_law vs) H := by
  obtain ⟨s, ns, rfl, hs, T, S, q⟩ := h
  refine ⟨s, ns, rfl, hs, fun p c H1 e1 P1 => ?_⟩
  refine ⟨by decide, by decide, fun i σ G => (∃ x2 x3 x4 x5 x6 x7 x8 x9 x10 x11 x12 x13 x14 x15 x16, σ = [some (.ref s), some (.ref p), x2, x3, x4, x5, x6, x7, x8, x9, x10, x11, x12, x13, x14, x15, x16]) ∧ PenAt G p c (5000 * i) ∧ LamX.Tabs (TB K) G,
    ⟨⟨_, _, _, _, _, _, _, _, _, _, _, _, _, _, _, rfl⟩, P1, T.ext e1⟩, fun _ _ _ _ _ => trivial, ?_, fun σ G _ => ⟨rfl, S, q⟩⟩
  rintro i x σ G G' hi ⟨⟨x2, x3, x4, x5, x6, x7, x8, x9, x10, x11, x12, x13, x14, x15, x16, rfl⟩, PG, TG⟩ ⟨rfl, rfl⟩
  have hi : i < 6 := hi
  refine ⟨p, c, 5000 * i, 3, rfl, by decide, by decide, PG, by omega, fun ys l G1 nd nm y1 y3 k1 hl P2 => ?_⟩
  have T1 := tabs_kp TG k1
  refine ⟨p, c, _, 40, rfl, P2, by omega, by decide, by decide, fun r1 G2 r10 r11 k2 P3 => ?_⟩
  refine ⟨p, c, _, 12, rfl, P3, by omega, by decide, by decide, fun r2 G3 r20 r21 k3 P4 => ?_⟩
  obtain ⟨j1, rfl⟩ := Int.eq_ofNat_of_zero_le r10
  obtain ⟨j2, rfl⟩ := Int.eq_ofNat_of_zero_le r20
  have em : (1 : Int) + ((j1 : Nat) : Int) = ((1 + j1 : Nat) : Int) := by omega
  have em2 : (1 : Int) + ((j2 : Nat) : Int) = ((1 + j2 : Nat) : Int) := by omega
  have k13 := k2.trans k3
  have hl3 := k13.lst hl
  dsimp only [zAdd]
  rw [em, em2]
  refine ⟨(show 2 ≤ sizeLine by decide), fun T0 nT0 => ⟨T0, _, rfl, SqT.of upd_same, rfl, _, _, rfl, _, _, rfl, rfl, ?_⟩⟩
  have P4 := P4.new (o := .tup [.int ((1 + j1 : Nat) : Int), .int ((1 + j2 : Nat) : Int)]) nT0
  have hl3 : (upd G3 T0 (.tup [.int ((1 + j1 : Nat) : Int), .int ((1 + j2 : Nat) : Int)])) l = some (.lst (ys.map V.str)) := (Ext.new nT0) _ _ hl3
  have kT : Kp G3 (upd G3 T0 (.tup [.int ((1 + j1 : Nat) : Int), .int ((1 + j2 : Nat) : Int)])) := Kp.new nT0
  generalize upd G3 T0 (.tup [.int ((1 + j1 : Nat) : Int), .int ((1 + j2 : Nat) : Int)]) = G3' at P4 hl3 kT ⊢
  refine ⟨p, c, l, _, 1 + j1, ys, rfl, P4, by omega, hl3, y3, by omega, fun d G4 k4 _ hd P5 => ?_⟩
  obtain ⟨cols, s1, s2, s3⟩ := hd.strong
  have hl4 := k4.lst hl3
  refine ⟨p, c, l, _, 1 + j2, ys, rfl, P5, by omega, hl4, y3, by omega, fun d2 G5 k5 _ hd2 P6 => ?_⟩
  obtain ⟨cols2, t1, t2, t3⟩ := hd2.strong
  have f : LF ys cols cols2 (1 + j1) (1 + j2) := ⟨nd, nm, y1, y3, by omega, by omega, by omega, by omega, s2, t2, s3, t3⟩
  have T5 := tabs_kp (tabs_kp (tabs_kp (tabs_kp T1 k13) kT) k4) k5
  have hl5 := k5.lst hl4
  have s15 := s1.kp k5
  refine ⟨d, ys, cols, rfl, s15, s3, f.short, f.three, by rw [s2]; omega, fun G6 e6 => ?_⟩
  refine make_sheet S (f.sh f.ne (by rw [s2]; omega)) (by rw [s2]; omega) fun a G7 e7 na hA => ?_
  have e67 := e6.trans e7
  refine ⟨d2, ys, cols2, rfl, t1.ext e67, t3, f.short, f.three, by rw [t2]; omega, fun G8 e8 => ?_⟩
  refine make_sheet S (f.sh f.ne2 (by rw [t2]; omega)) (by rw [t2]; omega) fun a2 G9 e9 na2 hA2 => ?_
  have e69 := e67.trans (e8.trans e9)
  refine ⟨(show 2 ≤ sizeLine by decide), fun T' nT' => ⟨T', _, rfl, SqT.of upd_same, rfl, _, _, rfl, _, _, rfl, rfl, ?_⟩⟩
  have w : LA K G9 p c l d d2 a a2 _ ys cols cols2 := ⟨P6.ext e69, T5.ext e69, e69 _ _ hl5, s15.ext e69, t1.ext e69, hA.ext (e8.trans e9), hA2⟩
  refine law_4 (E := E0) S f (w.ext (Ext.new nT')) (by omega) fun σ G' ⟨q', h', x12, x13, x14, x15, x16, hσ⟩ P' T'' => ⟨⟨_, _, _, _, _, _, _, _, _, _, _, _, _, _, _, hσ⟩, P'.mono (by omega), T''⟩
end
section
variable {P : Program} {w : World} {K : PySem.W.Frag} {mg : Str → Option Value} {base : Heap}
abbrev s_blank_right : Stmt := top 38
theorem sc_blank_right : FnScope N_blank_right ["_law_pen", "_law_tracks"] (defScope s_blank_right) := ⟨rfl, rfl, rfl, by decide +kernel, rfl, by decide +kernel, by decide +kernel⟩
theorem ok_blank_right {fd : FuncData} (B : Blt mg) (c_draw : Cal P w K mg base "_law_draw" 1 ["_law_pen", "_law_span"] (sp_draw K)) (c_pick : Cal P w K mg base "_law_pick" 2 ["_law_pen", "_law_options"] (sp_pick K)) (c_tracks_wrong : Cal P w K mg base "_law_tracks_wrong" 3 ["_law_names"] (sp_tracks_wrong K)) (c_Sheet_blank : OC P w K mg base "Sheet" "blank" 6 ["cls", "tracks", "n"] (sp_Sheet_blank K)) (c_Sheet_eq : OMe P w K mg base "Sheet" "__eq__" 1 ["self", "other"] (sp_Sheet_eq K)) (c_shows : Cal P w K mg base "_law_shows" 5 ["_law_sheet", "_law_plain"] (sp_shows K))  (GC : ∀ x ∈ clsN, mg x = some (.ref (He.ga K x))) {fg_refused : FuncData} (Fg_refused : FunD K "_law_refused" "_law_refused" (defArgs s_refused) (defBody s_refused) (defScope s_refused) [] [] (He.ga K "_law_refused") fg_refused) (gg_refused : mg "_law_refused" = some (.ref (He.ga K "_law_refused"))) (TBc : LamX.TabB base mg (He.cT K ("_law_blank_right", none)).1 (He.cT K ("_law_blank_right", none)).2) (TBm : ((He.cT K ("_law_blank_right", none)).2, (("_law_blank_right" : Str) ++ (".<locals>." : Str)) ++ ("<lambda>" : Str)) ∈ TB K) (TBu : ∀ p ∈ TB K, p.1 = (He.cT K ("_law_blank_right", none)).2 → p.2 = (("_law_blank_right" : Str) ++ (".<locals>." : Str)) ++ ("<lambda>" : Str)) (F : FunD K "_law_blank_right" "_law_blank_right" (defArgs s_blank_right) (defBody s_blank_right) (defScope s_blank_right) [] [] (He.fAd K ("_law_blank_right", none)) fd) : FnOk P w K mg base (L2.CX P w) 11 (He.fAd K ("_law_blank_right", none)) fd ["_law_pen", "_law_tracks"] (sp_blank_right K) := by
  refine okT (pd := ("_law_blank_right", none)) F sc_blank_right (fun vs H Q E h => len_blank_right h) (k := 10) (fun A outer s H vs Q E hr h => ⟨t_blank_right K E, ?_, pure_blank_right h⟩)
  have hu := hu_of hr
  have po := passes_of (X := (cxOf (L2.CX P w) P w K mg base N_blank_right "_law_blank_right" (defScope s_blank_right) (He.fAd K ("_law_blank_right", none)) (.ref (He.cT K ("_law_blank_right", none)).1) A outer s H E)) rfl
  have tk : Takes (cxOf (L2.CX P w) P w K mg base N_blank_right "_law_blank_right" (defScope s_blank_right) (He.fAd K ("_law_blank_right", none)) (.ref (He.cT K ("_law_blank_right", none)).1) A outer s H E) (fun cls d _ H => E cls d H) := takes_of rfl rfl rfl rfl
  have g_refused := giv_refused (X := (cxOf (L2.CX P w) P w K mg base N_blank_right "_law_blank_right" (defScope s_blank_right) (He.fAd K ("_law_blank_right", none)) (.ref (He.cT K ("_law_blank_right", none)).1) A outer s H E)) B GC Fg_refused gg_refused
  exact (pss_cons (ps_set (i := 2) sc_blank_right.nd rfl (by first | exact Or.inl rfl | exact Or.inr rfl) (pe_callTy cr_list rfl B.list (by decide +kernel) (pa_cons (yv 1) pa_nil)))
    (pss_cons (ys_for po rfl (j_rng rfl B.range (ye_call c_draw (hr.mono (by decide)) rfl (pa_cons (yv 0) (pa_cons pe_int pa_nil)))) (pg_name (i := 3) sc_blank_right.nd rfl (by first | exact Or.inl rfl | exact Or.inr rfl)) (pss_one (ps_expr (pe_bm PySem.F.plainAttrs_list PySem.F.slot_list_insert PySem.F.type_list_insert mt_zIns (yv 2) (pa_cons (ye_call c_draw (hr.mono (by decide)) rfl (pa_cons (yv 0) (pa_cons (pe_op op_zAdd (pe_callB cr_len rfl B.len boot_len (pa_cons (yv 2) pa_nil)) pe_int) pa_nil))) (pa_cons (ye_call c_pick (hr.mono (by decide)) rfl (pa_cons (yv 0) (pa_cons (pe_lst (pa_cons pe_str (pa_cons pe_str (pa_cons pe_str (pa_cons pe_str (pa_cons pe_str (pa_cons (pe_ix ix_zIxL (yv 1) pe_int (fun _ _ => rfl)) pa_nil))))))) pa_nil))) pa_nil))))))
    (pss_cons (ps_set (i := 2) sc_blank_right.nd rfl (by first | exact Or.inl rfl | exact Or.inr rfl) (ye_if (yt_cmp op_zEq (ye_call c_draw (hr.mono (by decide)) rfl (pa_cons (yv 0) (pa_cons pe_int pa_nil))) pe_int (by rfl)) (pe_lst pa_nil) (yv 2)))
    (pss_cons (ps_asg (pe_tup (pa_cons (ye_call c_tracks_wrong (hr.mono (by decide)) rfl (pa_cons (yv 2) pa_nil)) (pa_cons (ye_call c_pick (hr.mono (by decide)) rfl (pa_cons (yv 0) (pa_cons (pe_lst (pa_cons pe_int (pa_cons pe_int (pa_cons pe_int (pa_cons pe_int (pa_cons pe_int (pa_cons pe_int (pa_cons (pe_un un_zNeg pe_int) (pa_cons pe_int (pa_cons (pe_op op_zPow pe_int pe_int) pa_nil)))))))))) pa_nil))) pa_nil))) (pg_tup rfl (pgs_cons (pg_name (i := 4) sc_blank_right.nd rfl (by first | exact Or.inl rfl | exact Or.inr rfl)) (pgs_cons (pg_name (i := 5) sc_blank_right.nd rfl (by first | exact Or.inl rfl | exact Or.inr rfl)) pgs_nil))))
    (pss_cons (ps_set (i := 6) sc_blank_right.nd rfl (by first | exact Or.inl rfl | exact Or.inr rfl) (ye_if (yt_cmp op_zGe (yv 4) pe_int (by rfl)) (pe_tup (pa_cons pe_str (pa_cons (yv 4) (pa_cons pe_bl pa_nil)))) (ye_if (yt_chain op_zLe op_zLe pe_int (yv 5) pe_int) pe_non (pe_tup (pa_cons pe_str (pa_cons (yv 5) (pa_cons pe_bl pa_nil)))))))
    (pss_cons (ys_if (yt_cmp (op_zNeD hr.units) (ye_lam g_refused rfl TBc rfl TBm TBu (hr.mono (by decide)) (show LamX.LamS (defScope s_blank_right) _ from LamX.lamS_by (by decide +kernel)) rfl (by intros; rfl) (k := 7) (fun A outer s H EL f c' hr => (ye_cmeth c_Sheet_blank (takes_of rfl rfl rfl rfl) (hr.mono (by decide)) (pe_glob rfl (GC "Sheet" (by decide)) rfl) (pa_cons (yv 2) (pa_cons (yv 5) pa_nil))))) (yv 6) (by rfl)) (pss_one (ps_ret pe_bl)) pss_nil)
    (pss_cons (ps_set (i := 7) sc_blank_right.nd rfl (by first | exact Or.inl rfl | exact Or.inr rfl) (pe_callTy cr_list rfl B.list (by decide +kernel) (pa_cons (yv 1) pa_nil)))
    (pss_cons (ps_set (i := 8) sc_blank_right.nd rfl (by first | exact Or.inl rfl | exact Or.inr rfl) (ye_cmeth c_Sheet_blank tk (hr.mono (by decide)) (pe_glob rfl (GC "Sheet" (by decide)) rfl) (pa_cons (yv 7) (pa_cons pe_int pa_nil))))
    (pss_cons (ps_expr (pe_bm PySem.F.plainAttrs_list PySem.F.slot_list_append PySem.F.type_list_append mt_zApp (yv 7) (pa_cons pe_str pa_nil)))
    (pss_cons (ps_set (i := 9) sc_blank_right.nd rfl (by first | exact Or.inl rfl | exact Or.inr rfl) (pe_disp (pps_cons pe_str (yv 1) (pps_cons pe_str (pe_op op_zRepL (pe_lst (pa_cons (pe_op op_zRepL (pe_lst (pa_cons pe_int pa_nil)) (pe_callB cr_len rfl B.len boot_len (pa_cons (yv 1) pa_nil))) pa_nil)) pe_int) pps_nil)) (by rfl) (by rfl) (by simp) (by decide)))
    (pss_one (ps_ret (ye_and (ye_call c_shows (hr.mono (by decide)) rfl (pa_cons (yv 8) (pa_cons (yv 9) pa_nil))) (pe_one (pe_cmpR (op_zEqO c_Sheet_eq (hr.mono (by decide))) (ye_cmeth c_Sheet_blank tk (hr.mono (by decide)) (pe_glob rfl (GC "Sheet" (by decide)) rfl) (pa_cons (pe_callTy cr_tuple rfl B.tuple (by decide +kernel) (pa_cons (yv 1) pa_nil)) (pa_cons pe_int pa_nil))) (yv 8) (by rfl))))))))))))))))
abbrev s_long_right : Stmt := top 39
theorem sc_long_right : FnScope N_long_right [] (defScope s_long_right) := ⟨rfl, rfl, rfl, by decide +kernel, rfl, by decide +kernel, by decide +kernel⟩
theorem ok_long_right {f : Addr} {fd : FuncData} (B : Blt mg) (c_Sheet_init : OM P w K mg base "Sheet" 4 ["self", "text"] (sp_Sheet_init K)) (c_Sheet_blank : OC P w K mg base "Sheet" "blank" 6 ["cls", "tracks", "n"] (sp_Sheet_blank K)) (c_Sheet_add : OMe P w K mg base "Sheet" "__add__" 6 ["self", "other"] (sp_Sheet_add K)) (c_Sheet_invert : OMe P w K mg base "Sheet" "__invert__" 6 ["self"] (sp_Sheet_invert K)) (c_Sheet_cells : OMe P w K mg base "Sheet" "cells" 3 ["self", "track"] (sp_Sheet_cells K)) (c_Sheet_getitem : OMe P w K mg base "Sheet" "__getitem__" 3 ["self", "at"] (sp_Sheet_getitem K)) (c_Sheet_len : OMe P w K mg base "Sheet" "__len__" 1 ["self"] (sp_Sheet_len K)) (c_Sheet_cut : OMe P w K mg base "Sheet" "cut" 6 ["self", "columns"] (sp_Sheet_cut K))  (CF : ∀ x f, (x, f) ∈ fldN → Cls K (He.ga K x) ∧ NoAttr K (He.ga K x) f) (GC : ∀ x ∈ clsN, mg x = some (.ref (He.ga K x))) (fi_Sheet : ∀ f, Meth K (He.ga K "Sheet") "__getitem__" f → PySem.W.fnIn K f = true) (sf_Sheet : PySem.W.selfFirst K (He.ga K "Sheet") = true) (F : FunD K "_law_long_right" "_law_long_right" (defArgs s_long_right) (defBody s_long_right) (defScope s_long_right) [] [] f fd) : FnOk P w K mg base (L2.CX P w) 8 f fd [] (sp_long_right K) := by
  refine F.ok sc_long_right (fun vs H Q E h => len_long_right h) (fun cdv A outer s H vs Q E hr h => ⟨t_long_right K E, ?_, pure_long_right h⟩)
  have tk : Takes (cxOf (L2.CX P w) P w K mg base N_long_right "_law_long_right" (defScope s_long_right) f cdv A outer s H E) (fun cls d _ H => E cls d H) := takes_of rfl rfl rfl rfl
  exact (pss_cons (ps_set (i := 0) sc_long_right.nd rfl (by first | exact Or.inl rfl | exact Or.inr rfl) (ye_new c_Sheet_init tk (hr.mono (by decide)) rfl (pa_cons (pe_op op_zAdd pe_str (pe_op op_zRepS pe_str pe_int)) pa_nil)))
    (pss_cons (ps_set (i := 1) sc_long_right.nd rfl (by first | exact Or.inl rfl | exact Or.inr rfl) (pe_op (op_zAddO c_Sheet_add sf_Sheet tk (hr.mono (by decide))) (yv 0) (ye_cmeth c_Sheet_blank tk (hr.mono (by decide)) (pe_glob rfl (GC "Sheet" (by decide)) rfl) (pa_cons (pe_lst (pa_cons pe_str pa_nil)) (pa_cons pe_int pa_nil)))))
    (pss_cons (ys_if (PW.pt (yt_or (yt_cmp op_zNe (ye_meth c_Sheet_cells tk (hr.mono (by decide)) (yv 1) (pa_cons pe_str pa_nil)) (pe_op op_zAdd (pe_op op_zRepS pe_str pe_int) (pe_op op_zRepS pe_str pe_int)) (by rfl)) (pw_or1 (yt_cmp op_zNe (ye_fld (cf1 (CF "Sheet" "text" (by decide))) (pe_un (un_zInvO c_Sheet_invert (hr.mono (by decide))) (yv 1)) rfl) (pe_op op_zAdd (pe_op op_zAdd pe_str (pe_op op_zRepS pe_str pe_int)) (pe_op op_zRepS pe_str pe_int)) (by rfl))))) (pss_one (ps_ret pe_bl)) pss_nil)
    (pss_cons (ys_if (yt_cmp (op_zNeD hr.units) (pe_lst (pa_cons (ye_getO c_Sheet_getitem fi_Sheet tk (hr.mono (by decide)) (yv 1) (pe_tup (pa_cons pe_str (pa_cons pe_int pa_nil)))) (pa_cons (ye_getO c_Sheet_getitem fi_Sheet tk (hr.mono (by decide)) (yv 1) (pe_tup (pa_cons pe_str (pa_cons pe_int pa_nil)))) (pa_cons (ye_getO c_Sheet_getitem fi_Sheet tk (hr.mono (by decide)) (yv 1) (pe_tup (pa_cons pe_str (pa_cons pe_int pa_nil)))) pa_nil)))) (pe_lst (pa_cons pe_bl (pa_cons pe_bl (pa_cons pe_bl pa_nil)))) (by rfl)) (pss_one (ps_ret pe_bl)) pss_nil)
    (pss_one (ps_ret (ye_and (pe_cmpR op_zEq (ye_fld (cf1 (CF "Sheet" "text" (by decide))) (ye_meth c_Sheet_cut tk (hr.mono (by decide)) (yv 1) (pa_cons (pe_lst (pa_cons pe_int (pa_cons pe_int (pa_cons pe_int pa_nil)))) pa_nil)) rfl) pe_str (by rfl)) (pe_one (pe_cmpR op_zEq (pe_callB (cr_lenO c_Sheet_len (hr.mono (by decide))) rfl B.len boot_len (pa_cons (pe_op (op_zAddO c_Sheet_add sf_Sheet tk (hr.mono (by decide))) (yv 0) (yv 0)) pa_nil)) pe_int (by rfl))))))))))
abbrev s_law : Stmt := top 40
theorem sc_law : FnScope N_law ["_law_script"] (defScope s_law) := ⟨rfl, rfl, rfl, by decide +kernel, rfl, by decide +kernel, by decide +kernel⟩
theorem ok_law {fd : FuncData} (B : Blt mg) (c_begun_pen : Cal P w K mg base "_law_begun_pen" 1 ["_law_script"] (sp_begun_pen K)) (c_new_tracks : Cal P w K mg base "_law_new_tracks" 4 ["_law_pen", "_law_most"] (sp_new_tracks K)) (c_draw : Cal P w K mg base "_law_draw" 1 ["_law_pen", "_law_span"] (sp_draw K)) (c_new_sheet : Cal P w K mg base "_law_new_sheet" 2 ["_law_pen", "_law_tracks", "_law_many"] (sp_new_sheet K)) (c_Sheet_init : OM P w K mg base "Sheet" 4 ["self", "text"] (sp_Sheet_init K)) (c_sheet_text : Cal P w K mg base "_law_sheet_text" 2 ["_law_sheet"] (sp_sheet_text K)) (c_cut_plain : Cal P w K mg base "_law_cut_plain" 1 ["_law_sheet", "_law_columns"] (sp_cut_plain K)) (c_Sheet_cut : OMe P w K mg base "Sheet" "cut" 6 ["self", "columns"] (sp_Sheet_cut K)) (c_shows : Cal P w K mg base "_law_shows" 5 ["_law_sheet", "_law_plain"] (sp_shows K)) (c_Sheet_eq : OMe P w K mg base "Sheet" "__eq__" 1 ["self", "other"] (sp_Sheet_eq K)) (c_pick : Cal P w K mg base "_law_pick" 2 ["_law_pen", "_law_options"] (sp_pick K)) (c_Sheet_invert : OMe P w K mg base "Sheet" "__invert__" 6 ["self"] (sp_Sheet_invert K)) (c_Sheet_add : OMe P w K mg base "Sheet" "__add__" 6 ["self", "other"] (sp_Sheet_add K)) (c_Sheet_len : OMe P w K mg base "Sheet" "__len__" 1 ["self"] (sp_Sheet_len K)) (c_blank_right : Cal P w K mg base "_law_blank_right" 11 ["_law_pen", "_law_tracks"] (sp_blank_right K)) (c_long_right : Cal P w K mg base "_law_long_right" 8 [] (sp_long_right K))  (CF : ∀ x f, (x, f) ∈ fldN → Cls K (He.ga K x) ∧ NoAttr K (He.ga K x) f) (GC : ∀ x ∈ clsN, mg x = some (.ref (He.ga K x))) (n_Sheet : NoNe K (He.ga K "Sheet")) (sf_Sheet : PySem.W.selfFirst K (He.ga K "Sheet") = true) {fg_refused : FuncData} (Fg_refused : FunD K "_law_refused" "_law_refused" (defArgs s_refused) (defBody s_refused) (defScope s_refused) [] [] (He.ga K "_law_refused") fg_refused) (gg_refused : mg "_law_refused" = some (.ref (He.ga K "_law_refused"))) (TBc : LamX.TabB base mg (He.cT K ("law", none)).1 (He.cT K ("law", none)).2) (TBm : ((He.cT K ("law", none)).2, (("law" : Str) ++ (".<locals>." : Str)) ++ ("<lambda>" : Str)) ∈ TB K) (TBu : ∀ p ∈ TB K, p.1 = (He.cT K ("law", none)).2 → p.2 = (("law" : Str) ++ (".<locals>." : Str)) ++ ("<lambda>" : Str)) (F : FunD K "law" "law" (defArgs s_law) (defBody s_law) (defScope s_law) [] [] (He.fAd K ("law", none)) fd) : AtCaller P w K mg base (He.fAd K ("law", none)) fd "_law_script" (sp_law K) := by
  refine atCaller (pd := ("law", none)) F sc_law ⟨rfl, by decide, by decide⟩ (k := 13) (fun s H v Q hr h => ⟨t_law K E0, ?_, pure_law h⟩)
  have hu := hu_of hr
  have po := passes_of (X := (cxOf CX0 P w K mg base N_law "law" (defScope s_law) (He.fAd K ("law", none)) (.ref (He.cT K ("law", none)).1) callerA [] s H E0)) rfl
  have g_refused := giv_refused (X := (cxOf CX0 P w K mg base N_law "law" (defScope s_law) (He.fAd K ("law", none)) (.ref (He.cT K ("law", none)).1) callerA [] s H E0)) B GC Fg_refused gg_refused
  exact (pss_cons (ps_set (i := 1) sc_law.nd rfl (by first | exact Or.inl rfl | exact Or.inr rfl) (ye_call c_begun_pen (hr.mono (by decide)) rfl (pa_cons (yv 0) pa_nil)))
    (pss_cons (ys_for po rfl (j_rng rfl B.range pe_int) (pg_name (i := 2) sc_law.nd rfl (by first | exact Or.inl rfl | exact Or.inr rfl)) (pss_cons (ps_set (i := 3) sc_law.nd rfl (by first | exact Or.inl rfl | exact Or.inr rfl) (ye_call c_new_tracks (hr.mono (by decide)) rfl (pa_cons (yv 1) (pa_cons pe_int pa_nil))))
    (pss_cons (ps_asg (pe_tup (pa_cons (pe_op op_zAdd pe_int (ye_call c_draw (hr.mono (by decide)) rfl (pa_cons (yv 1) (pa_cons pe_int pa_nil)))) (pa_cons (pe_op op_zAdd pe_int (ye_call c_draw (hr.mono (by decide)) rfl (pa_cons (yv 1) (pa_cons pe_int pa_nil)))) pa_nil))) (pg_tup rfl (pgs_cons (pg_name (i := 4) sc_law.nd rfl (by first | exact Or.inl rfl | exact Or.inr rfl)) (pgs_cons (pg_name (i := 5) sc_law.nd rfl (by first | exact Or.inl rfl | exact Or.inr rfl)) pgs_nil))))
    (pss_cons (ys_par (ps_par (i := 6) (j := 7) (by rfl) sc_law.nd rfl rfl (by decide) rfl rfl (PA.up (pa_cons (ye_call c_new_sheet (hr.mono (by decide)) rfl (pa_cons (yv 1) (pa_cons (yv 3) (pa_cons (yv 4) pa_nil)))) (pa_cons (ye_call c_new_sheet (hr.mono (by decide)) rfl (pa_cons (yv 1) (pa_cons (yv 3) (pa_cons (yv 5) pa_nil)))) pa_nil))) (by rfl)))
    (pss_cons (ps_asg (pe_tup (pa_cons (ye_new c_Sheet_init tk0 (hr.mono (by decide)) rfl (pa_cons (ye_call c_sheet_text (hr.mono (by decide)) rfl (pa_cons (yv 6) pa_nil)) pa_nil)) (pa_cons (ye_new c_Sheet_init tk0 (hr.mono (by decide)) rfl (pa_cons (ye_call c_sheet_text (hr.mono (by decide)) rfl (pa_cons (yv 7) pa_nil)) pa_nil)) pa_nil))) (pg_tup rfl (pgs_cons (pg_name (i := 8) sc_law.nd rfl (by first | exact Or.inl rfl | exact Or.inr rfl)) (pgs_cons (pg_name (i := 9) sc_law.nd rfl (by first | exact Or.inl rfl | exact Or.inr rfl)) pgs_nil))))
    (pss_cons (ps_set (i := 10) sc_law.nd rfl (by first | exact Or.inl rfl | exact Or.inr rfl) (ye_lc (own := [("_law_k", 16)]) (g := (gName 16)) (tt := tYes) rfl sc_law.nd (j_rng rfl B.range (pe_op op_zAdd pe_int (ye_call c_draw (hr.mono (by decide)) rfl (pa_cons (yv 1) (pa_cons pe_int pa_nil))))) (blkOk_by (N := N_law) (sc := defScope s_law) (by decide +kernel)) (fun _ _ _ _ _ => (pg_name (i := 16) sc_law.nd rfl (by first | exact Or.inl rfl | exact Or.inr rfl))) (fun _ _ _ _ _ => pts_nil) (fun _ _ _ _ _ => (ye_call c_draw (hr.mono (by decide)) rfl (pa_cons (yv 1) (pa_cons (yv 4) pa_nil))))))
    (pss_cons (ps_set (i := 11) sc_law.nd rfl (by first | exact Or.inl rfl | exact Or.inr rfl) (pe_callTy cr_list rfl B.list (by decide +kernel) (pa_cons (yv 10) pa_nil)))
    (pss_cons (ys_if (PW.pt (yt_or (yt_not (yt_val (ye_call c_shows (hr.mono (by decide)) rfl (pa_cons (ye_meth c_Sheet_cut tk0 (hr.mono (by decide)) (yv 8) (pa_cons (yv 11) pa_nil)) (pa_cons (ye_call c_cut_plain (hr.mono (by decide)) rfl (pa_cons (yv 6) (pa_cons (yv 10) pa_nil))) pa_nil))))) (pw_or1 (yt_cmp (op_zNeD hr.units) (yv 11) (yv 10) (by rfl))))) (pss_one (ps_ret pe_bl)) pss_nil)
    (pss_cons (ys_if (PW.pt (yt_or (yt_cmp (op_zNeO c_Sheet_eq n_Sheet (hr.mono (by decide))) (ye_meth c_Sheet_cut tk0 (hr.mono (by decide)) (yv 8) (pa_cons (pe_callTy cr_tuple rfl B.tuple (by decide +kernel) (pa_cons (yv 10) pa_nil)) pa_nil)) (ye_meth c_Sheet_cut tk0 (hr.mono (by decide)) (yv 8) (pa_cons (pe_callB cr_zSortI rfl B.sorted PyProof.Rows.boot_sorted (pa_cons (yv 10) pa_nil)) pa_nil)) (by rfl)) (pw_or1 (yt_cmp (op_zNeO c_Sheet_eq n_Sheet (hr.mono (by decide))) (ye_meth c_Sheet_cut tk0 (hr.mono (by decide)) (yv 8) (pa_cons (ye_lrng rfl rfl B.list rfl B.range (yv 4)) pa_nil)) (yv 8) (by rfl))))) (pss_one (ps_ret pe_bl)) pss_nil)
    (pss_cons (ps_asg (pe_tup (pa_cons (ye_call c_draw (hr.mono (by decide)) rfl (pa_cons (yv 1) (pa_cons (pe_op op_zAdd (pe_callB cr_len rfl B.len boot_len (pa_cons (yv 10) pa_nil)) pe_int) pa_nil))) (pa_cons (ye_call c_pick (hr.mono (by decide)) rfl (pa_cons (yv 1) (pa_cons (pe_lst (pa_cons (pe_un un_zNeg pe_int) (pa_cons (yv 4) (pa_cons (pe_op op_zPow pe_int pe_int) (pa_cons (pe_un un_zNeg (yv 4)) pa_nil))))) pa_nil))) pa_nil))) (pg_tup rfl (pgs_cons (pg_name (i := 12) sc_law.nd rfl (by first | exact Or.inl rfl | exact Or.inr rfl)) (pgs_cons (pg_name (i := 13) sc_law.nd rfl (by first | exact Or.inl rfl | exact Or.inr rfl)) pgs_nil))))
    (pss_cons (ys_if (yt_cmp (op_zNeD hr.units) (ye_lam g_refused rfl TBc rfl TBm TBu (hr.mono (by decide)) (show LamX.LamS (defScope s_law) _ from LamX.lamS_by (by decide +kernel)) rfl (by intros; rfl) (k := 7) (fun A outer s H EL f c' hr => (ye_meth c_Sheet_cut (takes_of rfl rfl rfl rfl) (hr.mono (by decide)) (yv 8) (pa_cons (pe_op op_zCatL (pe_op op_zCatL (pe_slice sl_zL (yv 10) po_none (po_some (yv 12))) (pe_lst (pa_cons (yv 13) (pa_cons (pe_un un_zNeg pe_int) pa_nil)))) (pe_slice sl_zL (yv 10) (po_some (yv 12)) po_none)) pa_nil)))) (pe_tup (pa_cons pe_str (pa_cons (yv 13) (pa_cons pe_bl pa_nil)))) (by rfl)) (pss_one (ps_ret pe_bl)) pss_nil)
    (pss_cons (ys_if (yt_cmp (op_zNeD hr.units) (ye_lam g_refused rfl TBc rfl TBm TBu (hr.mono (by decide)) (show LamX.LamS (defScope s_law) _ from LamX.lamS_by (by decide +kernel)) rfl (by intros; rfl) (k := 7) (fun A outer s H EL f c' hr => (ye_meth c_Sheet_cut (takes_of rfl rfl rfl rfl) (hr.mono (by decide)) (yv 8) (pa_cons (pe_lst pa_nil) pa_nil)))) (pe_tup (pa_cons pe_str (pa_cons pe_int (pa_cons pe_bl pa_nil)))) (by rfl)) (pss_one (ps_ret pe_bl)) pss_nil)
    (pss_cons (ys_if (PW.pt (yt_or (yt_not (yt_val (ye_call c_shows (hr.mono (by decide)) rfl (pa_cons (pe_un (un_zInvO c_Sheet_invert (hr.mono (by decide))) (yv 8)) (pa_cons (pe_disp (pps_cons pe_str (yv 3) (pps_cons pe_str (ye_stepL (ye_dget hu (yv 6) pe_str (fun _ _ => rfl)) (pe_un un_zNeg pe_int)) pps_nil)) (by rfl) (by rfl) (by simp) (by decide)) pa_nil))))) (pw_or1 (yt_cmp (op_zNeO c_Sheet_eq n_Sheet (hr.mono (by decide))) (pe_un (un_zInvO c_Sheet_invert (hr.mono (by decide))) (pe_un (un_zInvO c_Sheet_invert (hr.mono (by decide))) (yv 8))) (yv 8) (by rfl))))) (pss_one (ps_ret pe_bl)) pss_nil)
    (pss_cons (ps_set (i := 14) sc_law.nd rfl (by first | exact Or.inl rfl | exact Or.inr rfl) (pe_disp (pps_cons pe_str (yv 3) (pps_cons pe_str (pe_op op_zCatL (ye_dget hu (yv 6) pe_str (fun _ _ => rfl)) (ye_dget hu (yv 7) pe_str (fun _ _ => rfl))) pps_nil)) (by rfl) (by rfl) (by simp) (by decide)))
    (pss_cons (ys_if (PW.pt (yt_or (yt_not (yt_val (ye_call c_shows (hr.mono (by decide)) rfl (pa_cons (pe_op (op_zAddO c_Sheet_add sf_Sheet tk0 (hr.mono (by decide))) (yv 8) (yv 9)) (pa_cons (yv 14) pa_nil))))) (pw_or1 (yt_cmp (op_zNeO c_Sheet_eq n_Sheet (hr.mono (by decide))) (pe_un (un_zInvO c_Sheet_invert (hr.mono (by decide))) (pe_op (op_zAddO c_Sheet_add sf_Sheet tk0 (hr.mono (by decide))) (yv 8) (yv 9))) (pe_op (op_zAddO c_Sheet_add sf_Sheet tk0 (hr.mono (by decide))) (pe_un (un_zInvO c_Sheet_invert (hr.mono (by decide))) (yv 9)) (pe_un (un_zInvO c_Sheet_invert (hr.mono (by decide))) (yv 8))) (by rfl))))) (pss_one (ps_ret pe_bl)) pss_nil)
    (pss_cons (ys_if (PW.pt (yt_or (yt_cmp op_zNe (pe_callB (cr_lenO c_Sheet_len (hr.mono (by decide))) rfl B.len boot_len (pa_cons (pe_op (op_zAddO c_Sheet_add sf_Sheet tk0 (hr.mono (by decide))) (yv 8) (yv 9)) pa_nil)) (pe_op op_zAdd (yv 4) (yv 5)) (by rfl)) (pw_or1 (yt_cmp op_zNe (ye_fld (cf1 (CF "Sheet" "text" (by decide))) (yv 8) rfl) (ye_call c_sheet_text (hr.mono (by decide)) rfl (pa_cons (yv 6) pa_nil)) (by rfl))))) (pss_one (ps_ret pe_bl)) pss_nil)
    (pss_cons (ps_set (i := 15) sc_law.nd rfl (by first | exact Or.inl rfl | exact Or.inr rfl) (ye_new c_Sheet_init tk0 (hr.mono (by decide)) rfl (pa_cons (ye_call c_sheet_text (hr.mono (by decide)) rfl (pa_cons (pe_disp (pps_cons pe_str (ye_if (yt_cmp op_zGt (pe_callB cr_len rfl B.len boot_len (pa_cons (yv 3) pa_nil)) pe_int (by rfl)) (ye_stepL (yv 3) (pe_un un_zNeg pe_int)) (pe_lst (pa_cons pe_str pa_nil))) (pps_cons pe_str (ye_dget hu (yv 6) pe_str (fun _ _ => rfl)) pps_nil)) (by rfl) (by rfl) (by simp) (by decide)) pa_nil)) pa_nil)))
    (pss_one (ys_if (PW.pt (yt_or (yt_cmp (op_zNeD hr.units) (ye_lam g_refused rfl TBc rfl TBm TBu (hr.mono (by decide)) (show LamX.LamS (defScope s_law) _ from LamX.lamS_by (by decide +kernel)) rfl (by intros; rfl) (k := 7) (fun A outer s H EL f c' hr => (pe_op (op_zAddO c_Sheet_add sf_Sheet (takes_of rfl rfl rfl rfl) (hr.mono (by decide))) (yv 8) (yv 15)))) (pe_tup (pa_cons pe_str (pa_cons pe_non (pa_cons pe_bl pa_nil)))) (by rfl)) (pw_or1 (yt_not (yt_val (ye_call c_blank_right (hr.mono (by decide)) rfl (pa_cons (yv 1) (pa_cons (yv 3) pa_nil)))))))) (pss_one (ps_ret pe_bl)) pss_nil)))))))))))))))))))
    (pss_one (ps_ret (ye_call0 c_long_right (hr.mono (by decide)) rfl)))))
end
end Eb

namespace Eb
open PySem PySem.Spec PyProof.Rows L2
def exL : List (PySem.W.Frag → Bool) := [fun K => He.tupB K "BARRED" (BARRED.map He.Dv.str), fun K => kitB K (.type "str") (.ref (He.ga K "Rows")) false, fun K => kitB K (.ref (He.ga K "Rows")) (.ref (He.ga K "Rows")) true, fun K => kitB K (.ref (He.ga K "Sheet")) (.ref (He.ga K "Sheet")) true,
  fun K => xfsB K ERR, fun K => plainB K "Rows", fun K => plainB K "Sheet", fun K => getB K "Sheet", fun K => noNeB K "Sheet", fun K => PySem.W.selfFirst K (He.ga K "Sheet"),
  fun K => He5.wrapB K (He.ga K "Sheet") "classmethod" "classmethod.__get__" "blank", fun K => PySem.W.fnIn K (He5.wf K (He.ga K "Sheet") "classmethod" "blank"), fun K => PySem.W.readsIn K (He.ga K "Sheet") (.type "type"),
  fun K => decide ((He.cT K ("law", none)).2 ≠ (He.cT K ("_law_blank_right", none)).2)]
theorem cread_ok {K : PySem.W.Frag} {C : Addr} (h : PySem.W.readsIn K C (.type "type") = true) : ClX.CRead K C (.type "type") := by
  refine ⟨h, ?_⟩
  unfold PySem.W.readsIn at h
  obtain ⟨h, _⟩ := He.ba h
  obtain ⟨h, _⟩ := He.ba h
  obtain ⟨h, h3⟩ := He.ba h
  obtain ⟨_, h2⟩ := He.ba h
  unfold PySem.W.specialIn
  rw [beq_iff_eq.mp h2, Option.bind_some]
  exact beq_iff_eq.mp h3
theorem oc_of {P : Program} {w : World} {K : PySem.W.Frag} {mg : Str → Option Value} {base : Heap} {x m qual : Str} {params : Arguments} {body : List Stmt} {scope : Scope} {fd : FuncData} {k : Nat} {ps : List Str} {sp : Sp} {p f : Addr} (F : FunD K m qual params body scope [] [] f fd) (rd : ClX.CRead K (He.ga K x) (.type "type")) (cm : ClX.CMet K (He.ga K x) (.type "type") m p f)
    (ok : FnOk P w K mg base (L2.CX P w) k f fd ps sp) (hb : ∀ (kV doc pm : Value) (an : Option Addr) (cdv ct : Value) (us : List Value), us.length = ps.length → bindArgs (PySem.W.fnOf m qual params body scope .none kV doc pm an cdv ct) ⟨us, []⟩ = pure (ps.zip us)) :
    OC P w K mg base x m k ps sp := ⟨rd, p, f, fd, cm, ok, F.bindsN hb⟩
def dD (x : Str) (i : Nat) : He.DefD := ⟨(x, none), x, x, defArgs (top i), defBody (top i), defScope (top i), [], []⟩
def dM (x m : Str) (i j : Nat) : He.DefD := ⟨(x, some m), m, x ++ "." ++ m, defArgs (inClass (top i) j), defBody (inClass (top i) j), defScope (inClass (top i) j), [], []⟩
def dC (x m : Str) (i j : Nat) : He5.DefA := ⟨fun K => He5.wf K (He.ga K x) "classmethod" m, m, x ++ "." ++ m, defArgs (inClass (top i) j), defBody (inClass (top i) j), defScope (inClass (top i) j), [], []⟩
def glos : List Str := ["is_name", "lines_of", "check_tracks", "read_rows", "_law_begun_pen", "_law_draw", "_law_pick", "_law_shuffled", "_law_barred", "_law_is_name", "_law_new_names", "_law_new_tracks", "_law_new_sheet", "_law_cells_text", "_law_sheet_text", "_law_cut_plain", "_law_shows", "_law_refused", "_law_tracks_wrong", "_law_blank_right", "_law_long_right", "law"]
def blts : List Str := ["abs", "all", "dict", "enumerate", "int", "isinstance", "len", "list", "max", "min", "range", "repr", "set", "sorted", "str", "sum", "super", "tuple", "zip", "ValueError", "TypeError"]
def tailF : List He.Fa := [.cls "Rows", .cls "Sheet", .mkr "Rows", .mkr "Sheet", .meth "Sheet" "__len__", .meth "Sheet" "__getitem__", .meth "Sheet" "__eq__", .meth "Sheet" "__invert__", .meth "Sheet" "__add__", .meth "Sheet" "cells", .meth "Sheet" "cut", .noat "BadTracks" "index", .noat "BadSheet" "line", .noat "BadCount" "count", .noat "NoTrack" "name", .noat "NoColumn" "column", .str "LETTERS" "abcdefghijklmnopqrstuvwxyz", .glo "BARRED", .int "LONGEST" 12, .int "MOST_TRACKS" 3, .int "LINE_WORDS" 2, .int "MOST_COLUMNS" 1000]
def fas : List He.Fa := glos.map He.Fa.glo ++ (clsN.map He.Fa.glo ++ (blts.map He.Fa.free ++ (fldN.map (fun p => He.Fa.noat p.1 p.2) ++ tailF)))
def fns : List He.DefD := [dD "is_name" 13, dD "lines_of" 12, dD "check_tracks" 18, dM "Rows" "__init__" 19 0, dD "read_rows" 20, dM "Sheet" "__init__" 21 0, dM "Sheet" "__len__" 21 2, dM "Sheet" "__getitem__" 21 4, dM "Sheet" "__eq__" 21 5, dM "Sheet" "__invert__" 21 6, dM "Sheet" "__add__" 21 7, dM "Sheet" "cells" 21 8, dM "Sheet" "cut" 21 9, dD "_law_begun_pen" 23, dD "_law_draw" 24, dD "_law_pick" 25, dD "_law_shuffled" 26, dD "_law_barred" 27, dD "_law_is_name" 28, dD "_law_new_names" 29, dD "_law_new_tracks" 30, dD "_law_new_sheet" 31, dD "_law_cells_text" 32, dD "_law_sheet_text" 33, dD "_law_cut_plain" 34, dD "_law_shows" 35, dD "_law_refused" 36, dD "_law_tracks_wrong" 37, dD "_law_blank_right" 38, dD "_law_long_right" 39, dD "law" 40]
def xss : List XD := [mkXD "BadTracks" "BadTracks.__init__" (inClass (top 3) 0), mkXD "BadSheet" "BadSheet.__init__" (inClass (top 2) 0), mkXD "BadCount" "BadCount.__init__" (inClass (top 4) 0), mkXD "NoTrack" "NoTrack.__init__" (inClass (top 5) 0), mkXD "NoColumn" "NoColumn.__init__" (inClass (top 6) 0), mkXD "OtherTracks" "OtherTracks.__init__" (inClass (top 7) 0)]
def hD : HD := { n := 5, fa := fas, fn := fns, tf := [("_law_blank_right", none), ("law", none)], xs := xss, cm := [dC "Sheet" "blank" 21 1], ex := fun K => exL.all fun t => t K }
abbrev RR : PySem.W.OpenRow := PySem.W.OpenLaw.row PySem.Challenge.rw_edgejumps_k03_sheets_cut_and_joined
abbrev hkk : PySem.W.Hook := hookF RR.prog hD
def obb (s : PySem.W.SharedT) : AlE := obsFG RR.prog hD (HandSHeadRun.getT s)
theorem obb_eq (s : PySem.W.SharedT) : obb s = hkk.obs s.abs := obsFG_eq (HandSHeadRun.getT_eq s)
def loose : List Str := (["_wall", "__name__", "EdgeError", "BadSheet", "BadTracks", "BadCount", "NoTrack", "NoColumn", "OtherTracks", "LETTERS", "LONGEST", "BARRED", "lines_of", "is_name", "MOST_TRACKS", "MOST_COLUMNS", "LINE_WORDS", "check_tracks", "Rows", "read_rows"] : List Str) ++ (["Sheet", "_law_begun_pen", "_law_draw", "_law_pick", "_law_shuffled", "_law_barred", "_law_is_name", "_law_new_names", "_law_new_tracks", "_law_new_sheet", "_law_cells_text", "_law_sheet_text", "_law_cut_plain", "_law_shows", "_law_refused", "_law_tracks_wrong", "_law_blank_right", "_law_long_right"] : List Str)
theorem runH (w : World) : HandSHeadRun.RunEq RR (PySem.W.view RR.prog [40]) hkk obb 6000 loose w := by
  intro os
  kernel_rfl
end Eb

namespace Eb
open PySem PySem.Spec PyProof.Rows L2
section
variable {P : Program} {w : World} {K : PySem.W.Frag} {mg : Str → Option Value} {base : Heap} {f : Addr} {fd : FuncData}
theorem mk_BadTracks (A : XcAll P K "BadTracks" (inClass (top 3) 0) "BadTracks.__init__" f fd) (g : mg "BadTracks" = some (.ref (He.ga K "BadTracks"))) (hs : mg "super" = none) (no : PySem.W.findIn K (.ref (He.ga K "BadTracks")) "index" = some none) :
    Mk P w K mg base "BadTracks" (He.ga K "BadTracks") ["self", "index"] (spI1 (He.ga K "BadTracks") "index" fmtOk) :=
  mk_of_all A g (ini1 A.fn hs rfl ⟨rfl, rfl, rfl, by decide +kernel, rfl, by decide +kernel, by decide +kernel, by decide +kernel, rfl, rfl⟩ rfl rfl no (says_f3 (by decide) (by decide) (by decide) (by decide)) (by decide) (by decide))
    (fun _ _ _ _ _ _ _ us hl => match us, hl with | [_, _], _ => rfl)
theorem mk_BadSheet (A : XcAll P K "BadSheet" (inClass (top 2) 0) "BadSheet.__init__" f fd) (g : mg "BadSheet" = some (.ref (He.ga K "BadSheet"))) (hs : mg "super" = none) (no : PySem.W.findIn K (.ref (He.ga K "BadSheet")) "line" = some none) :
    Mk P w K mg base "BadSheet" (He.ga K "BadSheet") ["self", "line"] (spI1 (He.ga K "BadSheet") "line" fmtOk) :=
  mk_of_all A g (ini1 A.fn hs rfl ⟨rfl, rfl, rfl, by decide +kernel, rfl, by decide +kernel, by decide +kernel, by decide +kernel, rfl, rfl⟩ rfl rfl no (says_f3 (by decide) (by decide) (by decide) (by decide)) (by decide) (by decide))
    (fun _ _ _ _ _ _ _ us hl => match us, hl with | [_, _], _ => rfl)
theorem mk_BadCount (A : XcAll P K "BadCount" (inClass (top 4) 0) "BadCount.__init__" f fd) (g : mg "BadCount" = some (.ref (He.ga K "BadCount"))) (hs : mg "super" = none) (no : PySem.W.findIn K (.ref (He.ga K "BadCount")) "count" = some none) :
    Mk P w K mg base "BadCount" (He.ga K "BadCount") ["self", "count"] (spI1 (He.ga K "BadCount") "count" anyOk) :=
  mk_of_all A g (ini1 A.fn hs rfl ⟨rfl, rfl, rfl, by decide +kernel, rfl, by decide +kernel, by decide +kernel, by decide +kernel, rfl, rfl⟩ rfl rfl no says_const (by decide) (by decide))
    (fun _ _ _ _ _ _ _ us hl => match us, hl with | [_, _], _ => rfl)
theorem mk_NoTrack (A : XcAll P K "NoTrack" (inClass (top 5) 0) "NoTrack.__init__" f fd) (g : mg "NoTrack" = some (.ref (He.ga K "NoTrack"))) (hs : mg "super" = none) (no : PySem.W.findIn K (.ref (He.ga K "NoTrack")) "name" = some none) :
    Mk P w K mg base "NoTrack" (He.ga K "NoTrack") ["self", "name"] (spI1 (He.ga K "NoTrack") "name" fmtOk) :=
  mk_of_all A g (ini1 A.fn hs rfl ⟨rfl, rfl, rfl, by decide +kernel, rfl, by decide +kernel, by decide +kernel, by decide +kernel, rfl, rfl⟩ rfl rfl no (says_f2 (by decide) (by decide) (by decide)) (by decide) (by decide))
    (fun _ _ _ _ _ _ _ us hl => match us, hl with | [_, _], _ => rfl)
theorem mk_NoColumn (A : XcAll P K "NoColumn" (inClass (top 6) 0) "NoColumn.__init__" f fd) (g : mg "NoColumn" = some (.ref (He.ga K "NoColumn"))) (hs : mg "super" = none) (no : PySem.W.findIn K (.ref (He.ga K "NoColumn")) "column" = some none) :
    Mk P w K mg base "NoColumn" (He.ga K "NoColumn") ["self", "column"] (spI1 (He.ga K "NoColumn") "column" anyOk) :=
  mk_of_all A g (ini1 A.fn hs rfl ⟨rfl, rfl, rfl, by decide +kernel, rfl, by decide +kernel, by decide +kernel, by decide +kernel, rfl, rfl⟩ rfl rfl no says_const (by decide) (by decide))
    (fun _ _ _ _ _ _ _ us hl => match us, hl with | [_, _], _ => rfl)
theorem mk_OtherTracks (A : XcAll P K "OtherTracks" (inClass (top 7) 0) "OtherTracks.__init__" f fd) (g : mg "OtherTracks" = some (.ref (He.ga K "OtherTracks"))) (hs : mg "super" = none) :
    Mk P w K mg base "OtherTracks" (He.ga K "OtherTracks") ["self"] (spI0 (He.ga K "OtherTracks")) :=
  mk_of_all A g (ini0 A.fn hs rfl ⟨rfl, rfl, rfl, by decide +kernel, rfl, by decide +kernel, by decide +kernel, by decide +kernel, rfl, rfl⟩ rfl rfl)
    (fun _ _ _ _ _ _ _ us hl => match us, hl with | [_], _ => rfl)
end
theorem ends (w : World) {P : Program} {K : PySem.W.Frag} {h : Heap} {mg : Str → Option Value} {f : Addr} (X : K.In h) (G : h.Ns mainGlobals mg) (hfa : mg ("law" : Str) = some (.ref f)) (c : SaysF P hD w h K) :
    ∃ fd : FuncData, (∀ (s : Shared) (v : Value), BindsTo s fd ⟨[v], []⟩ [("_law_script", v)]) ∧ SF K ∧ ∀ base : Heap, K.In base → base.Ns mainGlobals mg → LamX.TabB base mg (He.cT K ("law", none)).1 (He.cT K ("law", none)).2 → LamX.TabB base mg (He.cT K ("_law_blank_right", none)).1 (He.cT K ("_law_blank_right", none)).2 → AtCaller P w K mg base f fd "_law_script" (sp_law K) := by
  have fact : ∀ fa : He.Fa, fa ∈ fas → fa.ok K = true := fun fa hm => c.d.facts hm
  have tl : ∀ (i : Nat) {fa : He.Fa}, tailF[i]? = some fa → fa.ok K = true := fun i fa hm => fact fa (List.mem_append_right _ (List.mem_append_right _ (List.mem_append_right _ (List.mem_append_right _ (List.mem_of_getElem? hm)))))
  have g0 : ∀ x ∈ glos, mg x = some (.ref (He.ga K x)) := fun x hx => He.glo_ok X G (fact _ (List.mem_append_left _ (List.mem_map_of_mem hx)))
  have GC : ∀ x ∈ clsN, mg x = some (.ref (He.ga K x)) := fun x hx => He.glo_ok X G (fact _ (List.mem_append_right _ (List.mem_append_left _ (List.mem_map_of_mem hx))))
  have gf : ∀ x ∈ blts, mg x = none := fun x hx => He.free_ok X G (fact _ (List.mem_append_right _ (List.mem_append_right _ (List.mem_append_left _ (List.mem_map_of_mem hx)))))
  have na : ∀ x f, (x, f) ∈ fldN → NoAttr K (He.ga K x) f := fun x f hm => He.noat_ok (fact _ (List.mem_append_right _ (List.mem_append_right _ (List.mem_append_right _ (List.mem_append_left _ (List.mem_map_of_mem (f := fun p => He.Fa.noat p.1 p.2) hm))))))
  have B : Blt mg := ⟨gf _ (by decide), gf _ (by decide), gf _ (by decide), gf _ (by decide), gf _ (by decide), gf _ (by decide), gf _ (by decide), gf _ (by decide), gf _ (by decide), gf _ (by decide), gf _ (by decide), gf _ (by decide), gf _ (by decide), gf _ (by decide), gf _ (by decide), gf _ (by decide), gf _ (by decide), gf _ (by decide), gf _ (by decide), gf _ (by decide), gf _ (by decide)⟩
  have ex : (exL.all fun t => t K) = true := c.x.more
  have cl_Rows : Cls K (He.ga K "Rows") := He.cls_ok (tl 0 rfl)
  have cl_Sheet : Cls K (He.ga K "Sheet") := He.cls_ok (tl 1 rfl)
  have mr_Rows := He.mkr_ok (x := "Rows") (tl 2 rfl)
  have mr_Sheet := He.mkr_ok (x := "Sheet") (tl 3 rfl)
  have me_Sheet_len := He.meth_ok (x := "Sheet") (m := "__len__") (tl 4 rfl)
  have me_Sheet_getitem := He.meth_ok (x := "Sheet") (m := "__getitem__") (tl 5 rfl)
  have me_Sheet_eq := He.meth_ok (x := "Sheet") (m := "__eq__") (tl 6 rfl)
  have me_Sheet_invert := He.meth_ok (x := "Sheet") (m := "__invert__") (tl 7 rfl)
  have me_Sheet_add := He.meth_ok (x := "Sheet") (m := "__add__") (tl 8 rfl)
  have me_Sheet_cells := He.meth_ok (x := "Sheet") (m := "cells") (tl 9 rfl)
  have me_Sheet_cut := He.meth_ok (x := "Sheet") (m := "cut") (tl 10 rfl)
  have no_BadTracks : PySem.W.findIn K (.ref (He.ga K "BadTracks")) "index" = some none := He.noat_ok (tl 11 rfl)
  have no_BadSheet : PySem.W.findIn K (.ref (He.ga K "BadSheet")) "line" = some none := He.noat_ok (tl 12 rfl)
  have no_BadCount : PySem.W.findIn K (.ref (He.ga K "BadCount")) "count" = some none := He.noat_ok (tl 13 rfl)
  have no_NoTrack : PySem.W.findIn K (.ref (He.ga K "NoTrack")) "name" = some none := He.noat_ok (tl 14 rfl)
  have no_NoColumn : PySem.W.findIn K (.ref (He.ga K "NoColumn")) "column" = some none := He.noat_ok (tl 15 rfl)
  have k_LETTERS := k_str (He.str_ok X G (tl 16 rfl))
  have k_BARRED := k_ref (He.glo_ok X G (tl 17 rfl))
  have k_LONGEST := k_int (He.int_ok X G (tl 18 rfl))
  have k_MOST_TRACKS := k_int (He.int_ok X G (tl 19 rfl))
  have k_LINE_WORDS := k_int (He.int_ok X G (tl 20 rfl))
  have k_MOST_COLUMNS := k_int (He.int_ok X G (tl 21 rfl))
  have CF : ∀ x f, (x, f) ∈ fldN → Cls K (He.ga K x) ∧ NoAttr K (He.ga K x) f := fun x f hm => by
    refine ⟨?_, na x f hm⟩
    simp only [fldN, List.mem_cons, List.not_mem_nil, or_false, Prod.mk.injEq] at hm
    rcases hm with ⟨rfl, _⟩ | ⟨rfl, _⟩ | ⟨rfl, _⟩ | ⟨rfl, _⟩ | ⟨rfl, _⟩ | ⟨rfl, _⟩
    · exact cl_Rows
    · exact cl_Rows
    · exact cl_Sheet
    · exact cl_Sheet
    · exact cl_Sheet
    · exact cl_Sheet
  have pc_S := plainB_ok (exL_ok ex 6) cl_Sheet
  have pc_R := plainB_ok (exL_ok ex 5) cl_Rows
  have n_Sheet := noNeB_ok (exL_ok ex 8)
  have fi_Sheet := getB_ok (exL_ok ex 7)
  have sf_Sheet : PySem.W.selfFirst K (He.ga K "Sheet") = true := exL_ok ex 9
  have rd_Sheet := cread_ok (exL_ok ex 12)
  have cm_Sheet_blank := He5.cmet_of (exL_ok ex 10) (exL_ok ex 11)
  have two : (He.cT K ("law", none)).2 ≠ (He.cT K ("_law_blank_right", none)).2 := of_decide_eq_true (exL_ok ex 13)
  have TBm_law : ((He.cT K ("law", none)).2, (("law" : Str) ++ (".<locals>." : Str)) ++ ("<lambda>" : Str)) ∈ TB K := .head _
  have TBm_blank_right : ((He.cT K ("_law_blank_right", none)).2, (("_law_blank_right" : Str) ++ (".<locals>." : Str)) ++ ("<lambda>" : Str)) ∈ TB K := .tail _ (.head _)
  have TBu_law : ∀ p ∈ TB K, p.1 = (He.cT K ("law", none)).2 → p.2 = (("law" : Str) ++ (".<locals>." : Str)) ++ ("<lambda>" : Str) := fun p hp hq => by
    simp only [TB, List.mem_cons, List.not_mem_nil, or_false] at hp
    rcases hp with rfl | rfl
    · rfl
    · exact absurd hq.symm two
  have TBu_blank_right : ∀ p ∈ TB K, p.1 = (He.cT K ("_law_blank_right", none)).2 → p.2 = (("_law_blank_right" : Str) ++ (".<locals>." : Str)) ++ ("<lambda>" : Str) := fun p hp hq => by
    simp only [TB, List.mem_cons, List.not_mem_nil, or_false] at hp
    rcases hp with rfl | rfl
    · exact absurd hq two
    · rfl
  obtain ⟨fd_p_is_name, F_p_is_name⟩ := c.d.def_ 0 (d := dD "is_name" 13) rfl
  have c_p_is_name : ∀ base, Cal P w K mg base "is_name" 1 ["word"] (sp_p_is_name K) := fun base => cal_of F_p_is_name (g0 "is_name" (by decide)) (ok_p_is_name B  k_LETTERS k_BARRED k_LONGEST F_p_is_name) (fun _ _ _ _ _ _ us hl => match us, hl with | [_], _ => rfl)
  obtain ⟨fd_p_lines_of, F_p_lines_of⟩ := c.d.def_ 1 (d := dD "lines_of" 12) rfl
  have c_p_lines_of : ∀ base, Cal P w K mg base "lines_of" 1 ["text"] (sp_p_lines_of K) := fun base => cal_of F_p_lines_of (g0 "lines_of" (by decide)) (ok_p_lines_of B  F_p_lines_of) (fun _ _ _ _ _ _ us hl => match us, hl with | [_], _ => rfl)
  obtain ⟨f_BadTracks, fd_BadTracks, A_BadTracks⟩ := c.exc (x := "BadTracks") (qual := "BadTracks.__init__") (st := inClass (top 3) 0) (List.mem_of_getElem? (l := xss) (i := 0) rfl)
  have m_BadTracks : ∀ base, Mk P w K mg base "BadTracks" (He.ga K "BadTracks") ["self", "index"] (spI1 (He.ga K "BadTracks") "index" fmtOk) := fun base => mk_BadTracks A_BadTracks (GC "BadTracks" (by decide)) B.super no_BadTracks
  obtain ⟨fd_p_check_tracks, F_p_check_tracks⟩ := c.d.def_ 2 (d := dD "check_tracks" 18) rfl
  have c_p_check_tracks : ∀ base, Cal P w K mg base "check_tracks" 3 ["tracks"] (sp_p_check_tracks K) := fun base => cal_of F_p_check_tracks (g0 "check_tracks" (by decide)) (ok_p_check_tracks B (c_p_is_name base) (m_BadTracks base) k_MOST_TRACKS F_p_check_tracks) (fun _ _ _ _ _ _ us hl => match us, hl with | [_], _ => rfl)
  obtain ⟨fd_Rows_init, F_Rows_init⟩ := c.d.def_ 3 (d := dM "Rows" "__init__" 19 0) rfl
  have c_Rows_init : ∀ base, OM P w K mg base "Rows" 1 ["self", "tracks", "signs"] (sp_Rows_init K) := fun base => om_of F_Rows_init cl_Rows mr_Rows (GC "Rows" (by decide)) (ok_Rows_init B  CF F_Rows_init) (fun _ _ _ _ _ _ us hl => match us, hl with | [_, _, _], _ => rfl)
  obtain ⟨f_BadSheet, fd_BadSheet, A_BadSheet⟩ := c.exc (x := "BadSheet") (qual := "BadSheet.__init__") (st := inClass (top 2) 0) (List.mem_of_getElem? (l := xss) (i := 1) rfl)
  have m_BadSheet : ∀ base, Mk P w K mg base "BadSheet" (He.ga K "BadSheet") ["self", "line"] (spI1 (He.ga K "BadSheet") "line" fmtOk) := fun base => mk_BadSheet A_BadSheet (GC "BadSheet" (by decide)) B.super no_BadSheet
  obtain ⟨fd_p_read_rows, F_p_read_rows⟩ := c.d.def_ 4 (d := dD "read_rows" 20) rfl
  have c_p_read_rows : ∀ base, Cal P w K mg base "read_rows" 3 ["text"] (sp_p_read_rows K) := fun base => cal_of F_p_read_rows (g0 "read_rows" (by decide)) (ok_p_read_rows B (c_p_lines_of base) (c_p_is_name base) (c_Rows_init base) (m_BadSheet base) k_LINE_WORDS k_MOST_TRACKS k_MOST_COLUMNS F_p_read_rows) (fun _ _ _ _ _ _ us hl => match us, hl with | [_], _ => rfl)
  obtain ⟨fd_Sheet_init, F_Sheet_init⟩ := c.d.def_ 5 (d := dM "Sheet" "__init__" 21 0) rfl
  have c_Sheet_init : ∀ base, OM P w K mg base "Sheet" 4 ["self", "text"] (sp_Sheet_init K) := fun base => om_of F_Sheet_init cl_Sheet mr_Sheet (GC "Sheet" (by decide)) (ok_Sheet_init B (c_p_read_rows base) CF GC F_Sheet_init) (fun _ _ _ _ _ _ us hl => match us, hl with | [_, _], _ => rfl)
  obtain ⟨f_BadCount, fd_BadCount, A_BadCount⟩ := c.exc (x := "BadCount") (qual := "BadCount.__init__") (st := inClass (top 4) 0) (List.mem_of_getElem? (l := xss) (i := 2) rfl)
  have m_BadCount : ∀ base, Mk P w K mg base "BadCount" (He.ga K "BadCount") ["self", "count"] (spI1 (He.ga K "BadCount") "count" anyOk) := fun base => mk_BadCount A_BadCount (GC "BadCount" (by decide)) B.super no_BadCount
  obtain ⟨fd_Sheet_blank, F_Sheet_blank⟩ := c.cmd 0 (d := dC "Sheet" "blank" 21 1) rfl
  have c_Sheet_blank : ∀ base, OC P w K mg base "Sheet" "blank" 6 ["cls", "tracks", "n"] (sp_Sheet_blank K) := fun base => oc_of F_Sheet_blank rd_Sheet cm_Sheet_blank (ok_Sheet_blank B (c_p_check_tracks base) (c_Sheet_init base) (c_Rows_init base) (m_BadCount base) k_MOST_COLUMNS F_Sheet_blank) (fun _ _ _ _ _ _ us hl => match us, hl with | [_, _, _], _ => rfl)
  obtain ⟨fd_Sheet_len, F_Sheet_len⟩ := c.d.def_ 6 (d := dM "Sheet" "__len__" 21 2) rfl
  have c_Sheet_len : ∀ base, OMe P w K mg base "Sheet" "__len__" 1 ["self"] (sp_Sheet_len K) := fun base => ome_of F_Sheet_len cl_Sheet me_Sheet_len (ok_Sheet_len B  CF F_Sheet_len) (fun _ _ _ _ _ _ us hl => match us, hl with | [_], _ => rfl)
  obtain ⟨f_NoTrack, fd_NoTrack, A_NoTrack⟩ := c.exc (x := "NoTrack") (qual := "NoTrack.__init__") (st := inClass (top 5) 0) (List.mem_of_getElem? (l := xss) (i := 3) rfl)
  have m_NoTrack : ∀ base, Mk P w K mg base "NoTrack" (He.ga K "NoTrack") ["self", "name"] (spI1 (He.ga K "NoTrack") "name" fmtOk) := fun base => mk_NoTrack A_NoTrack (GC "NoTrack" (by decide)) B.super no_NoTrack
  obtain ⟨f_NoColumn, fd_NoColumn, A_NoColumn⟩ := c.exc (x := "NoColumn") (qual := "NoColumn.__init__") (st := inClass (top 6) 0) (List.mem_of_getElem? (l := xss) (i := 4) rfl)
  have m_NoColumn : ∀ base, Mk P w K mg base "NoColumn" (He.ga K "NoColumn") ["self", "column"] (spI1 (He.ga K "NoColumn") "column" anyOk) := fun base => mk_NoColumn A_NoColumn (GC "NoColumn" (by decide)) B.super no_NoColumn
  obtain ⟨fd_Sheet_getitem, F_Sheet_getitem⟩ := c.d.def_ 7 (d := dM "Sheet" "__getitem__" 21 4) rfl
  have c_Sheet_getitem : ∀ base, OMe P w K mg base "Sheet" "__getitem__" 3 ["self", "at"] (sp_Sheet_getitem K) := fun base => ome_of F_Sheet_getitem cl_Sheet me_Sheet_getitem (ok_Sheet_getitem B  (m_NoTrack base) (m_NoColumn base) CF F_Sheet_getitem) (fun _ _ _ _ _ _ us hl => match us, hl with | [_, _], _ => rfl)
  obtain ⟨fd_Sheet_eq, F_Sheet_eq⟩ := c.d.def_ 8 (d := dM "Sheet" "__eq__" 21 5) rfl
  have c_Sheet_eq : ∀ base, OMe P w K mg base "Sheet" "__eq__" 1 ["self", "other"] (sp_Sheet_eq K) := fun base => ome_of F_Sheet_eq cl_Sheet me_Sheet_eq (ok_Sheet_eq B  CF GC F_Sheet_eq) (fun _ _ _ _ _ _ us hl => match us, hl with | [_, _], _ => rfl)
  obtain ⟨fd_Sheet_invert, F_Sheet_invert⟩ := c.d.def_ 9 (d := dM "Sheet" "__invert__" 21 6) rfl
  have c_Sheet_invert : ∀ base, OMe P w K mg base "Sheet" "__invert__" 6 ["self"] (sp_Sheet_invert K) := fun base => ome_of F_Sheet_invert cl_Sheet me_Sheet_invert (ok_Sheet_invert B (c_Sheet_init base) (c_Rows_init base) CF F_Sheet_invert) (fun _ _ _ _ _ _ us hl => match us, hl with | [_], _ => rfl)
  obtain ⟨f_OtherTracks, fd_OtherTracks, A_OtherTracks⟩ := c.exc (x := "OtherTracks") (qual := "OtherTracks.__init__") (st := inClass (top 7) 0) (List.mem_of_getElem? (l := xss) (i := 5) rfl)
  have m_OtherTracks : ∀ base, Mk P w K mg base "OtherTracks" (He.ga K "OtherTracks") ["self"] (spI0 (He.ga K "OtherTracks")) := fun base => mk_OtherTracks A_OtherTracks (GC "OtherTracks" (by decide)) B.super
  obtain ⟨fd_Sheet_add, F_Sheet_add⟩ := c.d.def_ 10 (d := dM "Sheet" "__add__" 21 7) rfl
  have c_Sheet_add : ∀ base, OMe P w K mg base "Sheet" "__add__" 6 ["self", "other"] (sp_Sheet_add K) := fun base => ome_of F_Sheet_add cl_Sheet me_Sheet_add (ok_Sheet_add B (c_Sheet_init base) (c_Rows_init base) (m_OtherTracks base) CF F_Sheet_add) (fun _ _ _ _ _ _ us hl => match us, hl with | [_, _], _ => rfl)
  obtain ⟨fd_Sheet_cells, F_Sheet_cells⟩ := c.d.def_ 11 (d := dM "Sheet" "cells" 21 8) rfl
  have c_Sheet_cells : ∀ base, OMe P w K mg base "Sheet" "cells" 3 ["self", "track"] (sp_Sheet_cells K) := fun base => ome_of F_Sheet_cells cl_Sheet me_Sheet_cells (ok_Sheet_cells B  (m_NoTrack base) CF F_Sheet_cells) (fun _ _ _ _ _ _ us hl => match us, hl with | [_, _], _ => rfl)
  obtain ⟨fd_Sheet_cut, F_Sheet_cut⟩ := c.d.def_ 12 (d := dM "Sheet" "cut" 21 9) rfl
  have c_Sheet_cut : ∀ base, OMe P w K mg base "Sheet" "cut" 6 ["self", "columns"] (sp_Sheet_cut K) := fun base => ome_of F_Sheet_cut cl_Sheet me_Sheet_cut (ok_Sheet_cut B (c_Sheet_init base) (c_Rows_init base) (m_NoColumn base) (m_BadCount base) CF F_Sheet_cut) (fun _ _ _ _ _ _ us hl => match us, hl with | [_, _], _ => rfl)
  obtain ⟨fd_begun_pen, F_begun_pen⟩ := c.d.def_ 13 (d := dD "_law_begun_pen" 23) rfl
  have c_begun_pen : ∀ base, Cal P w K mg base "_law_begun_pen" 1 ["_law_script"] (sp_begun_pen K) := fun base => cal_of F_begun_pen (g0 "_law_begun_pen" (by decide)) (ok_begun_pen B  F_begun_pen) (fun _ _ _ _ _ _ us hl => match us, hl with | [_], _ => rfl)
  obtain ⟨fd_draw, F_draw⟩ := c.d.def_ 14 (d := dD "_law_draw" 24) rfl
  have c_draw : ∀ base, Cal P w K mg base "_law_draw" 1 ["_law_pen", "_law_span"] (sp_draw K) := fun base => cal_of F_draw (g0 "_law_draw" (by decide)) (ok_draw B  F_draw) (fun _ _ _ _ _ _ us hl => match us, hl with | [_, _], _ => rfl)
  obtain ⟨fd_pick, F_pick⟩ := c.d.def_ 15 (d := dD "_law_pick" 25) rfl
  have c_pick : ∀ base, Cal P w K mg base "_law_pick" 2 ["_law_pen", "_law_options"] (sp_pick K) := fun base => cal_of F_pick (g0 "_law_pick" (by decide)) (ok_pick B (c_draw base) F_pick) (fun _ _ _ _ _ _ us hl => match us, hl with | [_, _], _ => rfl)
  obtain ⟨fd_shuffled, F_shuffled⟩ := c.d.def_ 16 (d := dD "_law_shuffled" 26) rfl
  have c_shuffled : ∀ base, Cal P w K mg base "_law_shuffled" 2 ["_law_pen", "_law_items"] (sp_shuffled K) := fun base => cal_of F_shuffled (g0 "_law_shuffled" (by decide)) (ok_shuffled B (c_draw base) F_shuffled) (fun _ _ _ _ _ _ us hl => match us, hl with | [_, _], _ => rfl)
  obtain ⟨fd_barred, F_barred⟩ := c.d.def_ 17 (d := dD "_law_barred" 27) rfl
  have c_barred : ∀ base, Cal P w K mg base "_law_barred" 1 [] (sp_barred K) := fun base => cal_of F_barred (g0 "_law_barred" (by decide)) (ok_barred B  F_barred) (fun _ _ _ _ _ _ us hl => match us, hl with | [], _ => rfl)
  obtain ⟨fd_is_name, F_is_name⟩ := c.d.def_ 18 (d := dD "_law_is_name" 28) rfl
  have c_is_name : ∀ base, Cal P w K mg base "_law_is_name" 2 ["_law_word"] (sp_is_name K) := fun base => cal_of F_is_name (g0 "_law_is_name" (by decide)) (ok_is_name B (c_barred base) F_is_name) (fun _ _ _ _ _ _ us hl => match us, hl with | [_], _ => rfl)
  obtain ⟨fd_new_names, F_new_names⟩ := c.d.def_ 19 (d := dD "_law_new_names" 29) rfl
  have c_new_names : ∀ base, Cal P w K mg base "_law_new_names" 3 ["_law_pen", "_law_many"] (sp_new_names K) := fun base => cal_of F_new_names (g0 "_law_new_names" (by decide)) (ok_new_names B (c_shuffled base) F_new_names) (fun _ _ _ _ _ _ us hl => match us, hl with | [_, _], _ => rfl)
  obtain ⟨fd_new_tracks, F_new_tracks⟩ := c.d.def_ 20 (d := dD "_law_new_tracks" 30) rfl
  have c_new_tracks : ∀ base, Cal P w K mg base "_law_new_tracks" 4 ["_law_pen", "_law_most"] (sp_new_tracks K) := fun base => cal_of F_new_tracks (g0 "_law_new_tracks" (by decide)) (ok_new_tracks B (c_draw base) (c_new_names base) F_new_tracks) (fun _ _ _ _ _ _ us hl => match us, hl with | [_, _], _ => rfl)
  obtain ⟨fd_new_sheet, F_new_sheet⟩ := c.d.def_ 21 (d := dD "_law_new_sheet" 31) rfl
  have c_new_sheet : ∀ base, Cal P w K mg base "_law_new_sheet" 2 ["_law_pen", "_law_tracks", "_law_many"] (sp_new_sheet K) := fun base => cal_of F_new_sheet (g0 "_law_new_sheet" (by decide)) (ok_new_sheet B (c_draw base) F_new_sheet) (fun _ _ _ _ _ _ us hl => match us, hl with | [_, _, _], _ => rfl)
  obtain ⟨fd_cells_text, F_cells_text⟩ := c.d.def_ 22 (d := dD "_law_cells_text" 32) rfl
  have c_cells_text : ∀ base, Cal P w K mg base "_law_cells_text" 1 ["_law_sheet", "_law_number"] (sp_cells_text K) := fun base => cal_of F_cells_text (g0 "_law_cells_text" (by decide)) (ok_cells_text B  F_cells_text) (fun _ _ _ _ _ _ us hl => match us, hl with | [_, _], _ => rfl)
  obtain ⟨fd_sheet_text, F_sheet_text⟩ := c.d.def_ 23 (d := dD "_law_sheet_text" 33) rfl
  have c_sheet_text : ∀ base, Cal P w K mg base "_law_sheet_text" 2 ["_law_sheet"] (sp_sheet_text K) := fun base => cal_of F_sheet_text (g0 "_law_sheet_text" (by decide)) (ok_sheet_text B (c_cells_text base) F_sheet_text) (fun _ _ _ _ _ _ us hl => match us, hl with | [_], _ => rfl)
  obtain ⟨fd_cut_plain, F_cut_plain⟩ := c.d.def_ 24 (d := dD "_law_cut_plain" 34) rfl
  have c_cut_plain : ∀ base, Cal P w K mg base "_law_cut_plain" 1 ["_law_sheet", "_law_columns"] (sp_cut_plain K) := fun base => cal_of F_cut_plain (g0 "_law_cut_plain" (by decide)) (ok_cut_plain B  F_cut_plain) (fun _ _ _ _ _ _ us hl => match us, hl with | [_, _], _ => rfl)
  obtain ⟨fd_shows, F_shows⟩ := c.d.def_ 25 (d := dD "_law_shows" 35) rfl
  have c_shows : ∀ base, Cal P w K mg base "_law_shows" 5 ["_law_sheet", "_law_plain"] (sp_shows K) := fun base => cal_of F_shows (g0 "_law_shows" (by decide)) (ok_shows B (c_Sheet_len base) (c_Sheet_getitem base) (c_Sheet_cells base) (c_cells_text base) (c_sheet_text base) CF fi_Sheet F_shows) (fun _ _ _ _ _ _ us hl => match us, hl with | [_, _], _ => rfl)
  obtain ⟨fd_refused, F_refused⟩ := c.d.def_ 26 (d := dD "_law_refused" 36) rfl
  obtain ⟨fd_tracks_wrong, F_tracks_wrong⟩ := c.d.def_ 27 (d := dD "_law_tracks_wrong" 37) rfl
  have c_tracks_wrong : ∀ base, Cal P w K mg base "_law_tracks_wrong" 3 ["_law_names"] (sp_tracks_wrong K) := fun base => cal_of F_tracks_wrong (g0 "_law_tracks_wrong" (by decide)) (ok_tracks_wrong B (c_is_name base) F_tracks_wrong) (fun _ _ _ _ _ _ us hl => match us, hl with | [_], _ => rfl)
  obtain ⟨fd_blank_right, F_blank_right⟩ := c.d.def_ 28 (d := dD "_law_blank_right" 38) rfl
  have c_blank_right : ∀ base, LamX.TabB base mg (He.cT K ("_law_blank_right", none)).1 (He.cT K ("_law_blank_right", none)).2 → Cal P w K mg base "_law_blank_right" 11 ["_law_pen", "_law_tracks"] (sp_blank_right K) := fun base tb_blank_right => cal_of F_blank_right (g0 "_law_blank_right" (by decide)) (ok_blank_right B (c_draw base) (c_pick base) (c_tracks_wrong base) (c_Sheet_blank base) (c_Sheet_eq base) (c_shows base) GC F_refused (g0 "_law_refused" (by decide)) tb_blank_right TBm_blank_right TBu_blank_right F_blank_right) (fun _ _ _ _ _ _ us hl => match us, hl with | [_, _], _ => rfl)
  obtain ⟨fd_long_right, F_long_right⟩ := c.d.def_ 29 (d := dD "_law_long_right" 39) rfl
  have c_long_right : ∀ base, Cal P w K mg base "_law_long_right" 8 [] (sp_long_right K) := fun base => cal_of F_long_right (g0 "_law_long_right" (by decide)) (ok_long_right B (c_Sheet_init base) (c_Sheet_blank base) (c_Sheet_add base) (c_Sheet_invert base) (c_Sheet_cells base) (c_Sheet_getitem base) (c_Sheet_len base) (c_Sheet_cut base) CF GC fi_Sheet sf_Sheet F_long_right) (fun _ _ _ _ _ _ us hl => match us, hl with | [], _ => rfl)
  obtain ⟨fd_law, F_law⟩ := c.d.def_ 30 (d := dD "law" 40) rfl
  have S : SF K := ⟨fun H => by
      have z := He.tupB_ok (exL_ok ex 0) H
      rw [List.map_map] at z
      exact z, of_decide_eq_true (exL_ok ex 1), xfsB_ok (exL_ok ex 4) (fun p hp => by
        simp only [ERR, List.mem_cons, List.not_mem_nil, or_false] at hp
        rcases hp with rfl | rfl | rfl | rfl
        · exact ⟨A_NoColumn.xf, A_NoColumn.ec⟩
        · exact ⟨A_BadCount.xf, A_BadCount.ec⟩
        · exact ⟨A_BadTracks.xf, A_BadTracks.ec⟩
        · exact ⟨A_OtherTracks.xf, A_OtherTracks.ec⟩), pc_S, of_decide_eq_true (exL_ok ex 3), ⟨pc_R, of_decide_eq_true (exL_ok ex 2)⟩⟩
  have e := hfa.symm.trans (g0 "law" (by decide))
  cases e
  have b := FunD.bindsA (ps := ["_law_script"]) F_law fun _ _ _ _ _ _ us hl => match us, hl with | [_], _ => rfl
  exact ⟨fd_law, fun s v => b s [v] rfl, S, fun base _ _ tb tb_blank_right => by
    have TBc_law : ∀ _ : Heap, LamX.TabB base mg (He.cT K ("law", none)).1 (He.cT K ("law", none)).2 := fun _ => tb
    exact ok_law B (c_begun_pen base) (c_new_tracks base) (c_draw base) (c_new_sheet base) (c_Sheet_init base) (c_sheet_text base) (c_cut_plain base) (c_Sheet_cut base) (c_shows base) (c_Sheet_eq base) (c_pick base) (c_Sheet_invert base) (c_Sheet_add base) (c_Sheet_len base) (c_blank_right base tb_blank_right) (c_long_right base) CF GC n_Sheet sf_Sheet F_refused (g0 "_law_refused" (by decide)) (TBc_law base) TBm_law TBu_law F_law
    ⟩
end Eb
open PySem PySem.W PySem.Calls PyProof.Rows
theorem PySem.Challenge.cw_edgejumps_k03_sheets_cut_and_joined_holds : PySem.Challenge.rw_edgejumps_k03_sheets_cut_and_joined.Holds := by
  w_on; o_law
  refine HandSHeadRun.head_any (r := OpenLaw.row PySem.Challenge.rw_edgejumps_k03_sheets_cut_and_joined) (q := view (OpenLaw.row PySem.Challenge.rw_edgejumps_k03_sheets_cut_and_joined).prog [40]) (H := Eb.hkk) (ob := Eb.obb) (M := 6000) (loose := Eb.loose) (d := HandSHeadRun.topDef (OpenLaw.row PySem.Challenge.rw_edgejumps_k03_sheets_cut_and_joined).prog 40) (kwd := []) Eb.obb_eq
    (by kernel_rfl) (fun s => by kernel_rfl) Eb.runH (by kernel_rfl) (by kernel_rfl) (by kernel_rfl) (by rfl) (by first | assumption | decide +kernel) (by decide +kernel) ⟨rfl, rfl, rfl, rfl, rfl, by decide +kernel⟩ ?hw ?hc
  case hw => w_witness2
  case hc =>
    refine Eb.walk_fits (l := PySem.Challenge.rw_edgejumps_k03_sheets_cut_and_joined) (n := 63) (x := "_law_script") rfl (by decide) (by kernel_rfl) ?F
    intro w mg fa h Y G hmg0
    obtain ⟨K, KX, c⟩ := Y
    have hmg : mg ("law" : PySem.Str) = some (.ref fa) := by
      have e : (HandSHeadRun.topDef (OpenLaw.row PySem.Challenge.rw_edgejumps_k03_sheets_cut_and_joined).prog 40).name = ("law" : PySem.Str) := by kernel_rfl
      rw [← e]
      exact hmg0
    obtain ⟨fd, hb, S, hF⟩ := Eb.ends w (P := (PySem.Challenge.rw_edgejumps_k03_sheets_cut_and_joined).prog) KX G hmg c
    have hc := c.x
    have m1 : (("law" : PySem.Str), (none : Option PySem.Str)) ∈ Eb.hD.tf := by decide
    have m2 : (("_law_blank_right" : PySem.Str), (none : Option PySem.Str)) ∈ Eb.hD.tf := by decide
    refine ⟨K, KX, fd, [He.cT K ("law", none), He.cT K ("_law_blank_right", none)], _, fun p hp => ?_, hb, fun H a ns _ _ hT hS => ⟨a, ns, rfl, hS, ?_, S, fun _ => rfl⟩, fun base k1 k2 hT => hF base k1 k2 (hT _ (.head _)) (hT _ (.tail _ (.head _)))⟩
    · rcases List.mem_cons.mp hp with e | hp
      · subst e
        exact ⟨hc.empty _ m1, hc.out _ m1, PySem.W.codeHd_of_K KX (hc.hd _ m1)⟩
      · have e : p = He.cT K ("_law_blank_right", none) := by simpa using hp
        subst e
        exact ⟨hc.empty _ m2, hc.out _ m2, PySem.W.codeHd_of_K KX (hc.hd _ m2)⟩
    · intro q hq
      rcases List.mem_cons.mp hq with e | hq
      · rw [e]
        exact LamX.TabS.nil (hT _ (.head _))
      · rw [List.mem_singleton.mp hq]
        exact LamX.TabS.nil (hT _ (.tail _ (.head _)))

