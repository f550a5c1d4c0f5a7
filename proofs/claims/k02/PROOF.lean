import PyProof.Rows.All
import Wide.All
import OpenK.AllK
import Wide.FinOn
import HandS.ForMost
import HandS.Exc
import HandS.WordsExc
import HandS.Wide
import HandS.IsInst
import HandS.Defaults
import HandS.Walk
import HandS.TupLen
import HandS.DictTup
import HandS.Conv
import HandS.More
import HandS.SetKeys
import HandS.Style
import HandS.HeadEnd
import HandS.HeadHook2
import HandS.Head2
import PySem.Challenge.RW_evencut_k02_numbers_written
set_option Elab.async false
set_option linter.all false
set_option maxRecDepth 100000
set_option maxHeartbeats 4000000
/-! A body's reading computed from its syntax, once for all: cE, cT, cA, cS, cSs, and that they are right. -/
namespace Rf
open PySem L2 PySem.Spec PyProof.Rows

/-! ### syntax that asks nothing more -/
def noStar : Expr → Bool
  | .Starred .. => false
  | _ => true
theorem star_cons {e : Expr} {es : List Expr} {env : Env} (h : noStar e = true) : starEach (e :: es) env = (false, eval e env) :: starEach es env := by
  cases e <;> first | rfl | cases h
theorem star_none {pos : Pos} {env : Env} : ∀ {es : List Expr}, es.all noStar = true → (backTo pos (starEach es env)).any (·.1) = false
  | [], _ => rfl
  | e :: es, h => by
    obtain ⟨h1, h2⟩ := Bool.and_eq_true_iff.mp (show (noStar e && es.all noStar) = true from h)
    rw [star_cons h1]
    show (false || (backTo pos (starEach es env)).any (·.1)) = false
    rw [star_none h2]
    rfl
def noComp : Expr → Bool
  | .ListComp .. => false
  | .SetComp .. => false
  | .DictComp .. => false
  | _ => true
theorem swaps_no {e : Expr} {t : Option Expr} {l : Nat} {env : Env} (h : noComp e = true) : swapsWith e t l env = pure false := by
  cases e <;> first | rfl | cases h
def noSup : Expr → Bool
  | .Call (.Name id _) [] [] _ => id != "super"
  | _ => true
theorem base_no {o : Expr} {a : Str} {env : Env} {w : Sem Value} (h : noSup o = true) : attributeBase o a env w = w := by
  unfold attributeBase
  split
  · have h' : (_ != _) = true := h
    rw [h']
    rfl
  · rfl
def noSlice : Expr → Bool
  | .Slice .. => false
  | _ => true
theorem ix_no {b : Expr} (h : noSlice b = true) : ∀ o i, subscripted b false o i = operate [o, i] (getItem o i) := fun o i => by
  cases b <;> first | rfl | cases h
def noSet : Expr → Bool
  | .Set .. => false
  | _ => true
theorem mark_no {op : CmpOp} {b : Expr} (h : noSet b = true) : behindInMarks op b = false := by
  cases b <;> first | rfl | cases h
theorem fold_no {i : Expr} {env : Env} (h : noSet i = true) : ∀ x, foldedSetIterable i env x = pure x := fun x => by
  cases i <;> first | rfl | cases h
def noBool : Expr → Bool
  | .UnaryOp .. => false
  | .BoolOp .. => false
  | .IfExp .. => false
  | .Compare .. => false
  | _ => true
theorem true_no {a : Expr} {env : Env} (h : noBool a = true) : ∀ whole, isTrue a env whole = (do let v ← whole; standAt a.pos; holding [v] (truthy v)) := fun w => by
  cases a <;> first | rfl | cases h

/-! ### rules for one operation, several kinds -/
theorem callOr {X : Cx} {f : Value} {r r' : List V → Hp → VK → Prop} (h : CallR X f r) (h' : CallR X f r') : CallR X f (fun x H Q => r x H Q ∨ r' x H Q) := by
  intro pins s σ H xs us Q I rx q
  rcases q with q | q
  · exact h pins s σ H xs us Q I rx q
  · exact h' pins s σ H xs us Q I rx q
theorem psOr {X : Cx} {st : Stmt} {t u : TS} (h : PS X st t) (h' : PS X st u) : PS X st (fun D σ H => t D σ H ∨ u D σ H) := ⟨fun pins s σ H D I q => q.elim (h.run pins s σ H D I) (h'.run pins s σ H D I)⟩
theorem peOr {X : Cx} {e : Expr} {t u : TE} (h : PE X e t) (h' : PE X e u) : PE X e (fun σ H Q => t σ H Q ∨ u σ H Q) := ⟨fun pins s σ H Q I q => q.elim (h.run pins s σ H Q I) (h'.run pins s σ H Q I)⟩
theorem piOr {X : Cx} {tg e : Expr} {t u : TI} (h : PI X tg e t) (h' : PI X tg e u) : PI X tg e (fun σ H Q => t σ H Q ∨ u σ H Q) := ⟨fun pins s σ H Q I q => q.elim (h.run pins s σ H Q I) (h'.run pins s σ H Q I)⟩

/-- the one or the other, by a truth -/
@[irreducible] def cnd (b : Bool) (A B : Prop) : Prop := match b with
  | true => A
  | false => B
theorem cnd_t {A B : Prop} : cnd true A B = A := by unfold cnd; rfl
theorem cnd_f {A B : Prop} : cnd false A B = B := by unfold cnd; rfl
theorem of_t {A B : Prop} (h : cnd true A B) : A := by rw [cnd_t] at h; exact h
theorem of_f {A B : Prop} (h : cnd false A B) : B := by rw [cnd_f] at h; exact h
theorem cndT {b : Bool} {A B : Prop} (e : b = true) (h : A) : cnd b A B := by rw [e, cnd_t]; exact h
theorem cndF {b : Bool} {A B : Prop} (e : b = false) (h : B) : cnd b A B := by rw [e, cnd_f]; exact h
theorem cndB {b : Bool} {A B : Prop} (h1 : b = true → A) (h2 : b = false → B) : cnd b A B := by
  cases b with
  | true => rw [cnd_t]; exact h1 rfl
  | false => rw [cnd_f]; exact h2 rfl
theorem cndD {p : Prop} {_ : Decidable p} {A B : Prop} (h1 : p → A) (h2 : ¬ p → B) : cnd (decide p) A B := cndB (fun h => h1 (of_decide_eq_true h)) (fun h => h2 (of_decide_eq_false h))
theorem cndN {p : Prop} {_ : Decidable p} {A B : Prop} (h1 : ¬ p → A) (h2 : p → B) : cnd (!decide p) A B := cndB (fun h => h1 (by simpa using h)) (fun h => h2 (by simpa using h))
section
variable {X : Cx} {a b c : Expr} {ta tb tc : TE} {t u : TT} {pos : Pos}
def uIf (c : TT) (t u : TS) : TS := fun D σ H => c σ H fun b H1 => cnd b (t D σ H1) (u D σ H1)
theorem ps_ifU {c : Expr} {a b : List Stmt} {tc : TT} {t u : TS} (hc : PT X c tc) (ha : PSs X a t) (hb : PSs X b u) : PS X (.If c a b pos) (uIf tc t u) := by
  refine ⟨fun pins s σ H D I h => ?_⟩
  refine wpAny_If (thn (hc.run pins s σ H _ I h) fun d s1 ⟨H1, I1, q1⟩ => ?_)
  cases d with
  | true => exact ha.run pins s1 σ H1 D I1 (of_t q1)
  | false => exact hb.run pins s1 σ H1 D I1 (of_f q1)
def uIfE (t : TT) (ta tb : TE) : TE := fun σ H Q => t σ H fun c H1 => cnd c (ta σ H1 Q) (tb σ H1 Q)
theorem pe_ifU (hc : PT X c t) (ha : PE X a ta) (hb : PE X b tb) : PE X (.IfExp c a b pos) (uIfE t ta tb) := by
  refine ⟨fun pins s σ H Q I h => ?_⟩
  refine wpAny_IfExp (thn (hc.run pins s σ H _ I h) fun d s1 ⟨H1, I1, q1⟩ => ?_)
  cases d with
  | true => exact ha.run pins s1 σ H1 Q I1 (of_t q1)
  | false => exact hb.run pins s1 σ H1 Q I1 (of_f q1)
def uAnd (t u : TT) : TT := fun σ H Q => t σ H fun c H1 => cnd c (u σ H1 Q) (Q false H1)
def uOr (t u : TT) : TT := fun σ H Q => t σ H fun c H1 => cnd c (Q true H1) (u σ H1 Q)
theorem pw_andU {rest : List Expr} (ha : PT X a t) (hb : PW X (.BoolOp .And (b :: rest) pos) u) : PW X (.BoolOp .And (a :: b :: rest) pos) (uAnd t u) := by
  refine ⟨fun wh pins s σ H Q I h => ?_⟩
  refine isTrue_and (thn (ha.run pins s σ H _ I h) fun c s1 ⟨H1, I1, q1⟩ => ?_)
  cases c with
  | true => exact hb.run wh pins s1 σ H1 Q I1 (of_t q1)
  | false => exact ⟨H1, I1, of_f q1⟩
theorem pw_orU {rest : List Expr} (ha : PT X a t) (hb : PW X (.BoolOp .Or (b :: rest) pos) u) : PW X (.BoolOp .Or (a :: b :: rest) pos) (uOr t u) := by
  refine ⟨fun wh pins s σ H Q I h => ?_⟩
  refine isTrue_or (thn (ha.run pins s σ H _ I h) fun c s1 ⟨H1, I1, q1⟩ => ?_)
  cases c with
  | true => exact ⟨H1, I1, of_t q1⟩
  | false => exact hb.run wh pins s1 σ H1 Q I1 (of_f q1)
end
/-- binary operators, by the values' kinds -/
def rAddU (K : PySem.W.Frag) : R2 := fun x y H Q => match x, y with
  | .int i, .int j => Q (.int (i + j)) H
  | .str i, .str j => i.length + j.length ≤ sizeLine ∧ Q (.str (i ++ j)) H
  | x, y => rCat x y H Q ∨ rCatT K x y H Q
def rSubU : R2 := fun x y H Q => match x, y with
  | .int i, .int j => Q (.int (i - j)) H
  | _, _ => False
/-- a small factor, or both not too great -/
def CMulU (i j : Int) : Prop := CMul i j ∨ CMulW i j
theorem op_mulS {X : Cx} : OpR X (binaryOp .Mult) (fun x y H Q => ∃ z n, x = .str z ∧ y = .int n ∧ MulOk z n ∧ Q (.str (Txt.mul z n)) H) := by
  intro pins s σ H x y v u Q I rx ry h
  obtain ⟨i, j, rfl, rfl, hz, q⟩ := h
  obtain ⟨t, rfl⟩ := rx
  obtain ⟨t', rfl⟩ := ry
  exact SB.mul hz (fun t' tk => ⟨.str (Txt.mul i j), H, I.tok _, ⟨_, rfl⟩, q⟩)
def rMulU : R2 := fun x y H Q => match x, y with
  | .int i, .int j => CMulU i j ∧ Q (.int (i * j)) H
  | .str z, .int n => MulOk z n ∧ Q (.str (Txt.mul z n)) H
  | x, y => rRep x y H Q
def rDivU : R2 := fun x y H Q => match x, y with
  | .int i, .int j => CDivW i j ∧ Q (.int (i / j)) H
  | _, _ => False
def rModU : R2 := fun x y H Q => match x, y with
  | .int i, .int j => 0 < j ∧ Q (.int (i % j)) H
  | _, _ => False
def rPowU : R2 := fun x y H Q => match x, y with
  | .int i, .int j => CPow i j ∧ Q (.int (i ^ j.toNat)) H
  | _, _ => False
def rBin (K : PySem.W.Frag) : Operator → Option R2
  | .Add => some (rAddU K)
  | .Sub => some rSubU
  | .Mult => some rMulU
  | .FloorDiv => some rDivU
  | .Mod => some rModU
  | .Pow => some rPowU
  | _ => none
theorem opMono {X : Cx} {f : Value → Value → Sem Value} {r r' : R2} (h : OpR X f r) (i : ∀ x y H Q, r' x y H Q → r x y H Q) : OpR X f r' := fun pins s σ H x y v u Q I rx ry q => h pins s σ H x y v u Q I rx ry (i x y H Q q)
/-- two ints, or another rule -/
theorem int2 {P : V → V → Prop} {x y : V} (h1 : ∀ i j, P (.int i) (.int j)) (h2 : (∀ i j, ¬ (x = .int i ∧ y = .int j)) → P x y) : P x y := by
  by_cases h : ∃ i j, x = .int i ∧ y = .int j
  · obtain ⟨i, j, rfl, rfl⟩ := h
    exact h1 i j
  · exact h2 fun i j e => h ⟨i, j, e⟩
theorem rBin_ok {X : Cx} {op : Operator} {r : R2} (h : rBin X.K op = some r) : OpR X (binaryOp op) r := by
  cases op <;> first | cases h | (have e := Option.some.inj h; subst e)
  · refine opMono (op_add.or (op_add_str.or (op_cat.or op_catT))) fun x y H Q q => ?_
    unfold rAddU at q
    split at q
    · exact .inl ⟨_, _, rfl, rfl, q⟩
    · exact .inr (.inl ⟨_, _, rfl, rfl, q.1, q.2⟩)
    · exact .inr (.inr q)
  · refine opMono op_sub fun x y H Q q => ?_
    unfold rSubU at q
    split at q
    · exact ⟨_, _, rfl, rfl, q⟩
    · exact q.elim
  · refine opMono (op_mul.or (op_mulW.or (op_mulS.or op_rep))) fun x y H Q q => ?_
    unfold rMulU at q
    split at q
    · rcases q.1 with c | c
      · exact .inl ⟨_, _, rfl, rfl, c, q.2⟩
      · exact .inr (.inl ⟨_, _, rfl, rfl, c, q.2⟩)
    · exact .inr (.inr (.inl ⟨_, _, rfl, rfl, q⟩))
    · exact .inr (.inr (.inr q))
  · refine opMono op_mod fun x y H Q q => ?_
    unfold rModU at q
    split at q
    · exact ⟨_, _, rfl, rfl, q.1, q.2⟩
    · exact q.elim
  · refine opMono op_pow fun x y H Q q => ?_
    unfold rPowU at q
    split at q
    · exact ⟨_, _, rfl, rfl, q.1, q.2⟩
    · exact q.elim
  · refine opMono op_fdivW fun x y H Q q => ?_
    unfold rDivU at q
    split at q
    · exact ⟨_, _, rfl, rfl, q.1, q.2⟩
    · exact q.elim
/-- in place -/
def rIAddU : R2 := fun x y H Q => match x, y with
  | .int i, .int j => Q (.int (i + j)) H
  | .str i, .str j => i.length + j.length ≤ sizeLine ∧ Q (.str (i ++ j)) H
  | _, _ => False
def rAug (K : PySem.W.Frag) : Operator → Option R2
  | .Add => some rIAddU
  | .Sub => some rSubU
  | _ => none
theorem rAug_ok {X : Cx} {op : Operator} {r : R2} (h : rAug X.K op = some r) : OpR X (inplaceOp op) r := by
  cases op <;> first | cases h | (have e := Option.some.inj h; subst e)
  · refine opMono (iop_add.or iop_add_str) fun x y H Q q => ?_
    unfold rIAddU at q
    split at q
    · exact .inl ⟨_, _, rfl, rfl, q⟩
    · exact .inr ⟨_, _, rfl, rfl, q.1, q.2⟩
    · exact q.elim
  · refine opMono iop_sub fun x y H Q q => ?_
    unfold rSubU at q
    split at q
    · exact ⟨_, _, rfl, rfl, q⟩
    · exact q.elim
/-- comparisons -/
def rEqU (K : PySem.W.Frag) : R2 := fun x y H Q => match x, y with
  | .int i, .int j => Q (.bl (decide (i = j))) H
  | .str i, .str j => Q (.bl (decide (i = j))) H
  | .bl i, .bl j => Q (.bl (decide (i = j))) H
  | x, y => (scal x y = true ∧ Q (.bl (decide (x = y))) H) ∨ rEqD K x y H Q
def rNeU (K : PySem.W.Frag) : R2 := fun x y H Q => match x, y with
  | .int i, .int j => Q (.bl (!decide (i = j))) H
  | .str i, .str j => Q (.bl (!decide (i = j))) H
  | .bl i, .bl j => Q (.bl (!decide (i = j))) H
  | x, y => (scal x y = true ∧ Q (.bl (!decide (x = y))) H) ∨ rNeD K x y H Q
def rI2 (p : Int → Int → Bool) (q : List Nat → List Nat → Bool) : R2 := fun x y H Q => match x, y with
  | .int i, .int j => Q (.bl (p i j)) H
  | .str i, .str j => Q (.bl (q i.cps.toList j.cps.toList)) H
  | _, _ => False
def rLtU : R2 := rI2 (fun i j => decide (i < j)) fun a b => decide (a < b)
def rLeU : R2 := rI2 (fun i j => decide (i ≤ j)) fun a b => !decide (b < a)
def rGtU : R2 := rI2 (fun i j => decide (j < i)) fun a b => decide (b < a)
def rGeU : R2 := rI2 (fun i j => decide (j ≤ i)) fun a b => !decide (a < b)
def rIsU : R2 := fun x y H Q => match x, y with
  | .bl a, .bl b => Q (.bl (decide (a = b))) H
  | x, y => y = .non ∧ Q (.bl (decide (x = .non))) H
def rIsnU : R2 := fun x y H Q => match x, y with
  | .bl a, .bl b => Q (.bl (!decide (a = b))) H
  | x, y => y = .non ∧ Q (.bl (!decide (x = .non))) H
def rInU (K : PySem.W.Frag) : R2 := fun x y H Q => match x, y with
  | .str i, .str j => Q (.bl (!(Builtin.Str.occurrences j i 0 j.length 1).isEmpty)) H
  | x, y => rIn K false x y H Q ∨ ∃ a o, y = .ref a ∧ DGet H a x o ∧ Q (.bl o.isSome) H
def rNinU (K : PySem.W.Frag) : R2 := fun x y H Q => match x, y with
  | .str i, .str j => Q (.bl (!(!(Builtin.Str.occurrences j i 0 j.length 1).isEmpty))) H
  | x, y => rIn K true x y H Q ∨ ∃ a o, y = .ref a ∧ DGet H a x o ∧ Q (.bl (!o.isSome)) H
def rCmp (K : PySem.W.Frag) : CmpOp → Option R2
  | .Eq => some (rEqU K)
  | .NotEq => some (rNeU K)
  | .Lt => some rLtU
  | .LtE => some rLeU
  | .Gt => some rGtU
  | .GtE => some rGeU
  | .Is => some rIsU
  | .IsNot => some rIsnU
  | .In => some (rInU K)
  | .NotIn => some (rNinU K)
theorem op_in_dict {X : Cx} (hu : X.A.units + 1 < cLine) : OpR X (compareOp .In) fun x y H Q => ∃ a o, y = .ref a ∧ DGet H a x o ∧ Q (.bl o.isSome) H := by
  intro pins s σ H x y v u Q I rx ry h
  obtain ⟨a, o, rfl, g, q⟩ := h
  cases ry
  exact d_in hu I g rx fun s3 I3 => ⟨.bl o.isSome, H, I3, rfl, q⟩
theorem op_nin_dict {X : Cx} (hu : X.A.units + 1 < cLine) : OpR X (compareOp .NotIn) fun x y H Q => ∃ a o, y = .ref a ∧ DGet H a x o ∧ Q (.bl (!o.isSome)) H := by
  intro pins s σ H x y v u Q I rx ry h
  obtain ⟨a, o, rfl, g, q⟩ := h
  cases ry
  exact d_notIn hu I g rx fun s3 I3 => ⟨.bl (!o.isSome), H, I3, rfl, q⟩
theorem rI2_ok {X : Cx} {op : CmpOp} {p : Int → Int → Bool} {q : List Nat → List Nat → Bool} (h : OpR X (compareOp op) (rI0 fun i j => .bl (p i j))) (h2 : OpR X (compareOp op) fun x y H Q => ∃ i j, x = .str i ∧ y = .str j ∧ Q (.bl (q i.cps.toList j.cps.toList)) H) :
    OpR X (compareOp op) (rI2 p q) := opMono (h.or h2) fun x y H Q z => by
  unfold rI2 at z
  split at z
  · exact .inl ⟨_, _, rfl, rfl, z⟩
  · exact .inr ⟨_, _, rfl, rfl, z⟩
  · exact z.elim
theorem rCmp_ok {X : Cx} {op : CmpOp} {r : R2} (hu : X.A.units + 100 < cLine) (h : rCmp X.K op = some r) : OpR X (compareOp op) r := by
  cases op <;> first | cases h | (have e := Option.some.inj h; subst e)
  · refine opMono (op_eq.or (op_eqD (by omega))) fun x y H Q q => ?_
    unfold rEqU at q
    split at q
    · exact .inl ⟨rfl, by simpa using q⟩
    · exact .inl ⟨rfl, by simpa using q⟩
    · exact .inl ⟨rfl, by simpa using q⟩
    · exact q
  · refine opMono (op_ne.or (op_neD (by omega))) fun x y H Q q => ?_
    unfold rNeU at q
    split at q
    · exact .inl ⟨rfl, by simpa using q⟩
    · exact .inl ⟨rfl, by simpa using q⟩
    · exact .inl ⟨rfl, by simpa using q⟩
    · exact q
  · exact rI2_ok op_lt op_lt_str
  · exact rI2_ok op_le op_le_str
  · exact rI2_ok op_gt op_gt_str
  · exact rI2_ok op_ge op_ge_str
  · refine opMono (op_isBl.or op_isN) fun x y H Q q => ?_
    unfold rIsU at q
    split at q
    · exact .inl ⟨_, _, rfl, rfl, q⟩
    · exact .inr q
  · refine opMono (op_notBl.or op_notN) fun x y H Q q => ?_
    unfold rIsnU at q
    split at q
    · exact .inl ⟨_, _, rfl, rfl, q⟩
    · exact .inr q
  · refine opMono (op_in_str.or (op_in_seq.or (op_in_dict (by omega)))) fun x y H Q q => ?_
    unfold rInU at q
    split at q
    · exact .inl ⟨_, _, rfl, rfl, q⟩
    · exact .inr q
  · refine opMono (op_notIn_str.or (op_notIn_seq.or (op_nin_dict (by omega)))) fun x y H Q q => ?_
    unfold rNinU at q
    split at q
    · exact .inl ⟨_, _, rfl, rfl, q⟩
    · exact .inr q
/-- names, tests: by their kinds -/
def tV (i : Nat) : TE := fun σ H Q => match σ[i]? with
  | some (some v) => Q v H
  | _ => False
theorem pe_v {X : Cx} {i : Nat} {x : Str} {pos : Pos} (hN : X.N[i]? = some x) (hv : Vis X.env.scope x) (hd : (x == ("__debug__" : Str)) = false) (hcd : (x == ("__classdict__" : Str)) = false) : PE X (.Name x pos) (tV i) :=
  ⟨fun pins s σ H Q I h => (pe_var hN hv hd hcd).run pins s σ H Q I (by
    unfold tV at h
    split at h
    · exact ⟨_, by assumption, h⟩
    · exact h.elim)⟩
def tBo (t : TE) : TT := fun σ H Q => t σ H fun x H' => match x with
  | .bl k => Q k H'
  | _ => False
section
variable {X : Cx} {a b c : Expr} {ta tb tc : TE} {pos : Pos}
def onB (x : V) (Q : Bool → Prop) : Prop := match x with
  | .bl k => Q k
  | _ => False
theorem onB_of {x : V} {Q : Bool → Prop} (h : onB x Q) : ∃ k, x = .bl k ∧ Q k := by
  unfold onB at h
  split at h
  · exact ⟨_, rfl, h⟩
  · exact h.elim
theorem pt_cmpU {op : CmpOp} {r : R2} (ho : OpR X (compareOp op) r) (ha : PE X a ta) (hb : PE X b tb) (hm : behindInMarks op b = false) : PT X (.Compare a [op] [b] pos) (tBo (tOp r ta tb)) := by
  refine ⟨fun pins s σ H Q I h => ?_⟩
  refine wpAny_isTrue_Compare1 (thn (ha.run pins s σ H _ I h) fun v s1 ⟨x, H1, I1, r1, q1⟩ => thn (hb.run pins s1 σ H1 _ I1 q1) fun u s2 ⟨y, H2, I2, r2, q2⟩ =>
    thn (ho pins s2 σ H2 x y v u _ I2 r1 r2 q2) fun c s3 ⟨z, H3, I3, r3, q3⟩ => ?_) hm
  cases z <;> first | exact False.elim q3 | skip
  cases r3
  exact wpAny_truthy_bool ⟨H3, I3, q3⟩
def tChU (r r' : R2) (ta tb tc : TE) : TE := fun σ H Q => ta σ H fun x H1 => tb σ H1 fun y H2 => r x y H2 fun z H3 => onB z fun k => cnd k (tc σ H3 fun w' H4 => r' y w' H4 Q) (Q (.bl false) H3)
theorem pe_chU {op op' : CmpOp} {r r' : R2} (ho : OpR X (compareOp op) r) (ho' : OpR X (compareOp op') r') (ha : PE X a ta) (hb : PE X b tb) (hc : PE X c tc) (hm : lastMarks [op, op'] [b, c] = false) : PE X (.Compare a [op, op'] [b, c] pos) (tChU r r' ta tb tc) := by
  refine ⟨fun pins s σ H Q I h => ?_⟩
  refine Compare_chain (thn (ha.run pins s σ H _ I h) fun v s1 ⟨x, H1, I1, r1, q1⟩ => chain_link (thn (hb.run pins s1 σ H1 _ I1 q1) fun u s2 ⟨y, H2, I2, r2, q2⟩ =>
    thn (ho pins s2 σ H2 x y v u _ I2 r1 r2 q2) fun d s3 ⟨z, H3, I3, r3, q3⟩ => ?_)) hm
  obtain ⟨k, e, q3⟩ := onB_of q3
  subst e
  cases r3
  refine wpAny_truthy_bool ?_
  cases k with
  | false => exact ite_ff ⟨.bl false, H3, I3, rfl, of_f q3⟩
  | true => exact ite_tt (chain_last (thn (hc.run pins s3 σ H3 _ I3 (of_t q3)) fun w' s4 ⟨z', H4, I4, r4, q4⟩ => ho' pins s4 σ H4 y z' u w' Q I4 r2 r4 q4))
theorem pt_chU {op op' : CmpOp} {r r' : R2} (ho : OpR X (compareOp op) r) (ho' : OpR X (compareOp op') r') (ha : PE X a ta) (hb : PE X b tb) (hc : PE X c tc) (hm : lastMarks [op, op'] [b, c] = false) : PT X (.Compare a [op, op'] [b, c] pos) (tBo (tChU r r' ta tb tc)) := by
  refine ⟨fun pins s σ H Q I h => ?_⟩
  refine isTrue_chain (thn (ha.run pins s σ H _ I h) fun v s1 ⟨x, H1, I1, r1, q1⟩ => test_link (thn (hb.run pins s1 σ H1 _ I1 q1) fun u s2 ⟨y, H2, I2, r2, q2⟩ =>
    thn (ho pins s2 σ H2 x y v u _ I2 r1 r2 q2) fun d s3 ⟨z, H3, I3, r3, q3⟩ => ?_)) hm
  obtain ⟨k, e, q3⟩ := onB_of q3
  subst e
  cases r3
  refine wpAny_truthy_bool ?_
  cases k with
  | false =>
    have q3 := of_f q3
    exact ite_ff ⟨H3, I3, q3⟩
  | true =>
    have q3 := of_t q3
    refine ite_tt (test_last (thn (hc.run pins s3 σ H3 _ I3 q3) fun w' s4 ⟨z', H4, I4, r4, q4⟩ => thn (ho' pins s4 σ H4 y z' u w' _ I4 r2 r4 q4) fun d' s5 ⟨z2, H5, I5, r5, q5⟩ => ?_))
    cases z2 <;> first | exact False.elim q5 | skip
    cases r5
    exact wpAny_truthy_bool ⟨H5, I5, q5⟩
/-- and, or of truths, as values; not, by truth -/
def tAndU (ta tb : TE) : TE := fun σ H Q => ta σ H fun x H1 => onB x fun c => cnd c (tb σ H1 Q) (Q (.bl false) H1)
def tOrU (ta tb : TE) : TE := fun σ H Q => ta σ H fun x H1 => onB x fun c => cnd c (Q (.bl true) H1) (tb σ H1 Q)
def tNotU (ta : TE) : TE := fun σ H Q => ta σ H fun x H1 => onB x fun c => Q (.bl (!c)) H1
theorem pe_andU {rest : List Expr} (ha : PE X a ta) (hb : PE X (.BoolOp .And (b :: rest) pos) tb) : PE X (.BoolOp .And (a :: b :: rest) pos) (tAndU ta tb) := by
  refine ⟨fun pins s σ H Q I h => ?_⟩
  refine BoolOp_and (thn (ha.run pins s σ H _ I h) fun v s1 ⟨x, H1, I1, r1, q1⟩ => ?_)
  obtain ⟨c, rfl, q1⟩ := onB_of q1
  cases r1
  refine wpAny_truthy_bool ?_
  cases c with
  | true => exact hb.run pins s1 σ H1 Q I1 (of_t q1)
  | false => exact ⟨.bl false, H1, I1, rfl, of_f q1⟩
theorem pe_orU {rest : List Expr} (ha : PE X a ta) (hb : PE X (.BoolOp .Or (b :: rest) pos) tb) : PE X (.BoolOp .Or (a :: b :: rest) pos) (tOrU ta tb) := by
  refine ⟨fun pins s σ H Q I h => ?_⟩
  refine BoolOp_or (thn (ha.run pins s σ H _ I h) fun v s1 ⟨x, H1, I1, r1, q1⟩ => ?_)
  obtain ⟨c, rfl, q1⟩ := onB_of q1
  cases r1
  refine wpAny_truthy_bool ?_
  cases c with
  | false => exact hb.run pins s1 σ H1 Q I1 (of_f q1)
  | true => exact ⟨.bl true, H1, I1, rfl, of_t q1⟩
theorem pe_notU (ha : PE X a ta) : PE X (.UnaryOp .Not a pos) (tNotU ta) := by
  refine ⟨fun pins s σ H Q I h => ?_⟩
  refine UnaryOp_ (thn (ha.run pins s σ H _ I h) fun v s1 ⟨x, H1, I1, r1, q1⟩ => ?_)
  obtain ⟨c, rfl, q1⟩ := onB_of q1
  cases r1
  exact not_of (wpAny_truthy_bool ⟨.bl (!c), H1, I1, rfl, q1⟩)
def rNegU (x : V) (H : Hp) (Q : VK) : Prop := match x with
  | .int i => Q (.int (-i)) H
  | _ => False
theorem un_negU : UnR X (unaryOp .USub) rNegU := fun pins s σ H x v Q I rx h => un_neg pins s σ H x v Q I rx (by
  unfold rNegU at h
  split at h
  · exact ⟨_, rfl, h⟩
  · exact h.elim)
end
def truM (K : PySem.W.Frag) (x : V) (H : Hp) (Q : Bool → Hp → Prop) : Prop := match x with
  | .non => Q false H
  | .bl b => Q b H
  | .int i => Q (i != 0) H
  | .str y => y.length ≤ sizeLine ∧ Q ((y.length : Int) != 0) H
  | .ref p => (∃ xs, SqL K H p xs ∧ Q (!xs.isEmpty) H) ∨ (∃ xs, SqT K H p xs ∧ Q (!xs.isEmpty) H) ∨ ∃ kvs, H p = some (.dK kvs) ∧ Q (!kvs.isEmpty) H
  | _ => False
theorem truM_ok {K : PySem.W.Frag} {x : V} {H : Hp} {Q : Bool → Hp → Prop} (h : truM K x H Q) : ∃ k, TruV K x H k ∧ Q k H := by
  unfold truM at h
  split at h
  · exact ⟨_, rfl, h⟩
  · exact ⟨_, rfl, h⟩
  · exact ⟨_, rfl, h⟩
  · exact ⟨_, ⟨h.1, rfl⟩, h.2⟩
  · rcases h with ⟨xs, h1, h2⟩ | ⟨xs, h1, h2⟩ | ⟨kvs, h1, h2⟩
    · exact ⟨_, .inl ⟨xs, h1, rfl⟩, h2⟩
    · exact ⟨_, .inr (.inl ⟨xs, h1, rfl⟩), h2⟩
    · exact ⟨_, .inr (.inr ⟨kvs, h1, rfl⟩), h2⟩
  · exact h.elim
theorem pt_tru {X : Cx} {a : Expr} {ta : TE} (ha : PE X a ta) (he : ∀ whole, isTrue a X.env whole = (do let v ← whole; standAt a.pos; holding [v] (truthy v))) : PT X a (fun σ H Q => ta σ H fun x H' => truM X.K x H' Q) := by
  refine ⟨fun pins s σ H Q I h => ?_⟩
  exact isTrue_plain (thn (ha.run pins s σ H _ I h) fun v s1 ⟨x, H1, I1, r1, q1⟩ => tru_ok pins s1 σ H1 x v Q I1 r1 (truM_ok q1)) (he _)
def tTru (K : PySem.W.Frag) (te : TE) : TT := fun σ H Q => te σ H fun x H' => truM K x H' Q
end Rf
namespace Rf
open PySem L2 PySem.Spec PyProof.Rows

/-! ### built-in functions, by name -/
structure BFn (K : PySem.W.Frag) (x : Str) where
  val : Value
  r : List V → Hp → VK → Prop
  kind : (∃ id, val = .builtin id) ∨ ∃ T, val = .type T
  boot : bootBuiltins x = some val
  nm : x ≠ "__name__"
  ok : ∀ X : Cx, X.K = K → X.calm = true → X.A.units + 100 < cLine → CallR X val r
def rLenU (K : PySem.W.Frag) : List V → Hp → VK → Prop := fun xs H Q => match xs with
  | [.str y] => y.length ≤ sizeLine ∧ Q (.int (y.length : Nat)) H
  | [.ref p] => (∃ ys, SqL K H p ys ∧ Q (.int (ys.length : Nat)) H) ∨ (∃ ys, SqT K H p ys ∧ Q (.int (ys.length : Nat)) H) ∨ (∃ kvs, H p = some (.dK kvs) ∧ Q (.int (kvs.length : Nat)) H) ∨ ∃ kvs, H p = some (.dT kvs) ∧ Q (.int (kvs.length : Nat)) H
  | _ => False
theorem callMono {X : Cx} {f : Value} {r r' : List V → Hp → VK → Prop} (h : CallR X f r) (i : ∀ xs H Q, r' xs H Q → r xs H Q) : CallR X f r' := fun pins s σ H xs us Q I rx q => h pins s σ H xs us Q I rx (i xs H Q q)
theorem lenU_ok {X : Cx} : CallR X (.builtin "len") (rLenU X.K) := callMono (callOr call_len (callOr call_lenD call_len_dT)) fun xs H Q q => by
  unfold rLenU at q
  split at q
  · exact .inl ⟨_, _, rfl, ⟨q.1, rfl⟩, q.2⟩
  · rcases q with ⟨ys, h, q⟩ | ⟨ys, h, q⟩ | ⟨kvs, h, q⟩ | ⟨kvs, h, q⟩
    · exact .inl ⟨_, _, rfl, .inl ⟨ys, h, rfl⟩, q⟩
    · exact .inl ⟨_, _, rfl, .inr ⟨ys, h, rfl⟩, q⟩
    · exact .inr (.inl ⟨_, _, rfl, h, q⟩)
    · exact .inr (.inr ⟨_, _, rfl, h, q⟩)
  · exact q.elim
def rAbsU : List V → Hp → VK → Prop := fun xs H Q => match xs with
  | [.int i] => Q (.int (if i < 0 then -i else i)) H
  | _ => False
theorem absU_ok {X : Cx} : CallR X (.builtin "abs") rAbsU := callMono call_abs fun xs H Q q => by
  unfold rAbsU at q
  split at q
  · exact ⟨_, rfl, q⟩
  · exact q.elim
def rMaxU (K : PySem.W.Frag) : List V → Hp → VK → Prop := fun xs H Q => match xs with
  | [.int i, .int j] => Q (.int (if j > i then j else i)) H
  | xs => rMax K xs H Q
def rMinU (K : PySem.W.Frag) : List V → Hp → VK → Prop := fun xs H Q => match xs with
  | [.int i, .int j] => Q (.int (if j < i then j else i)) H
  | xs => rMin K xs H Q
theorem maxU_ok {X : Cx} (hc : X.calm = true) : CallR X (.builtin "max") (rMaxU X.K) := callMono (callOr (call_max2 hc) (cr_max hc)) fun xs H Q q => by
  unfold rMaxU at q
  split at q
  · exact .inl ⟨_, _, rfl, q⟩
  · exact .inr q
theorem minU_ok {X : Cx} (hc : X.calm = true) : CallR X (.builtin "min") (rMinU X.K) := callMono (callOr (call_min2 hc) (cr_min hc)) fun xs H Q q => by
  unfold rMinU at q
  split at q
  · exact .inl ⟨_, _, rfl, q⟩
  · exact .inr q
/-- isinstance of values of built-in kinds, against built-in classes -/
def isL1 : List String := ["NoneType", "bool", "int", "str", "list", "tuple", "dict"]
def isL2 : List String := ["int", "bool", "str", "list", "dict", "tuple"]
def isA (a b : String) : Bool := a == b || (a == "bool" && b == "int")
def isO (a b : String) : Option Bool := if isL1.contains a && isL2.contains b then some (isA a b) else none
theorem isTab : isL1.all (fun a => isL2.all fun b => decide (kitB a b = some (isA a b))) = true := by decide +kernel
theorem isO_ok {a b : String} {r : Bool} (h : isO a b = some r) : kitB a b = some r := by
  unfold isO at h
  by_cases e : (isL1.contains a && isL2.contains b) = true
  · rw [if_pos e] at h
    cases h
    obtain ⟨e1, e2⟩ := Bool.and_eq_true_iff.mp e
    exact of_decide_eq_true (List.all_eq_true.mp (List.all_eq_true.mp isTab a (by simpa using e1)) b (by simpa using e2))
  · rw [if_neg e] at h
    cases h
@[irreducible] def rIsiU (K : PySem.W.Frag) : List V → Hp → VK → Prop := fun xs H Q => match xs with
  | [.int _, .ty T] => ∃ b, isO "int" T = some b ∧ Q (.bl b) H
  | [.bl _, .ty T] => ∃ b, isO "bool" T = some b ∧ Q (.bl b) H
  | [.str _, .ty T] => ∃ b, isO "str" T = some b ∧ Q (.bl b) H
  | [.non, .ty T] => ∃ b, isO "NoneType" T = some b ∧ Q (.bl b) H
  | [.ref p, .ty T] => ∃ t, TyX K H (.ref p) (.type t) ∧ ∃ b, isO t T = some b ∧ Q (.bl b) H
  | xs => rIsi K xs H Q ∨ rIsiT K xs H Q
theorem isiU_ok {X : Cx} : CallR X (.builtin "isinstance") (rIsiU X.K) := callMono (callOr call_isi call_isiT) fun xs H Q q => by
  unfold rIsiU at q
  split at q
  · obtain ⟨b, h, q⟩ := q
    exact .inl ⟨_, _, _, _, b, rfl, .ty _, .base (.int _), kit_ty (isO_ok h), q⟩
  · obtain ⟨b, h, q⟩ := q
    exact .inl ⟨_, _, _, _, b, rfl, .ty _, .base (.bl _), kit_ty (isO_ok h), q⟩
  · obtain ⟨b, h, q⟩ := q
    exact .inl ⟨_, _, _, _, b, rfl, .ty _, .base (.str _), kit_ty (isO_ok h), q⟩
  · obtain ⟨b, h, q⟩ := q
    exact .inl ⟨_, _, _, _, b, rfl, .ty _, .base .non, kit_ty (isO_ok h), q⟩
  · obtain ⟨t, ht, b, h, q⟩ := q
    exact .inl ⟨_, _, _, _, b, rfl, .ty _, ht, kit_ty (isO_ok h), q⟩
  · exact q
def rStrU : List V → Hp → VK → Prop := fun xs H Q => ∃ i, xs = [.int i] ∧ i.natAbs.log2 < 1920 ∧ Q (.str (toString i)) H
def rIntU : List V → Hp → VK → Prop := fun xs H Q => ∃ a n, xs = [.str a] ∧ PySem.intText? a = some n ∧ a.length ≤ 640 ∧ Q (.int n) H
def bLen (K) : BFn K "len" := ⟨.builtin "len", rLenU K, .inl ⟨_, rfl⟩, boot_len, by decide, fun X e _ _ => e ▸ lenU_ok⟩
def bAbs (K) : BFn K "abs" := ⟨.builtin "abs", rAbsU, .inl ⟨_, rfl⟩, boot_abs, by decide, fun X _ _ _ => absU_ok⟩
def bMax (K) : BFn K "max" := ⟨.builtin "max", rMaxU K, .inl ⟨_, rfl⟩, boot_max, by decide, fun X e hc _ => e ▸ maxU_ok hc⟩
def bMin (K) : BFn K "min" := ⟨.builtin "min", rMinU K, .inl ⟨_, rfl⟩, boot_min, by decide, fun X e hc _ => e ▸ minU_ok hc⟩
def bIsi (K) : BFn K "isinstance" := ⟨.builtin "isinstance", rIsiU K, .inl ⟨_, rfl⟩, boot_isinstance, by decide, fun X e _ _ => e ▸ isiU_ok⟩
def bSum (K) : BFn K "sum" := ⟨.builtin "sum", rSum K, .inl ⟨_, rfl⟩, boot_sum, by decide, fun X e hc _ => e ▸ cr_sum hc⟩
def bAll (K) : BFn K "all" := ⟨.builtin "all", rAll K, .inl ⟨_, rfl⟩, boot_all, by decide, fun X e hc _ => e ▸ cr_all hc⟩
def bAny (K) : BFn K "any" := ⟨.builtin "any", rAny K, .inl ⟨_, rfl⟩, boot_any, by decide, fun X e hc _ => e ▸ cr_any hc⟩
def bStr (K) : BFn K "str" := ⟨.type "str", rStrU, .inr ⟨_, rfl⟩, PyProof.Rows.boot_str, by decide, fun X _ _ _ => call_str_int⟩
def bInt (K) : BFn K "int" := ⟨.type "int", rIntU, .inr ⟨_, rfl⟩, PyProof.Rows.boot_int, by decide, fun X _ _ _ => call_int_str⟩
def blt (K : PySem.W.Frag) (x : Str) : Option (BFn K x) :=
  if h : x = "len" then some (h ▸ bLen K) else if h : x = "abs" then some (h ▸ bAbs K) else if h : x = "max" then some (h ▸ bMax K) else if h : x = "min" then some (h ▸ bMin K)
  else if h : x = "isinstance" then some (h ▸ bIsi K) else if h : x = "sum" then some (h ▸ bSum K) else if h : x = "all" then some (h ▸ bAll K) else if h : x = "any" then some (h ▸ bAny K)
  else if h : x = "str" then some (h ▸ bStr K) else if h : x = "int" then some (h ▸ bInt K) else none

/-- built-in classes as values -/
def tyNames : List (Str × String) := [("int", "int"), ("bool", "bool"), ("str", "str"), ("list", "list"), ("dict", "dict"), ("tuple", "tuple"), ("set", "set"), ("ValueError", "ValueError")]
theorem tyNames_ok : tyNames.all (fun p => decide (bootBuiltins p.1 = some (.type p.2)) && decide (p.1 ≠ "__name__")) = true := by decide +kernel

/-! ### names -/
def ixO : List Str → Str → Option Nat
  | [], _ => none
  | y :: r, x => if y = x then some 0 else (ixO r x).map (· + 1)
theorem ixO_ok : ∀ {N : List Str} {x : Str} {i : Nat}, ixO N x = some i → N[i]? = some x
  | [], _, _, h => by cases h
  | y :: r, x, i, h => by
    unfold ixO at h
    by_cases e : y = x
    · rw [if_pos e] at h
      cases h
      simp [e]
    · rw [if_neg e] at h
      obtain ⟨j, hj, rfl⟩ := Option.map_eq_some_iff.mp h
      simpa using ixO_ok hj
inductive GK where
  | fn (sp : Sp) (dvs : List V)
  | cls (C : Addr) (sp : Sp) (dvs : List V)
  | con (v : V)
  | bl
structure GT where
  K : PySem.W.Frag
  N : List Str
  G : List (Str × GK)
  M : List (Str × Addr × Sp × List V)
/-- what a callable of the program's own stands for -/
def FnK (X : Cx) (f : Addr) (k : Nat) (sp : Sp) (dvs : List V) : Prop := ∃ fd ps ds, FnOk X.prog X.w X.K X.mg X.base (L2.CX X.prog X.w) k f fd ps sp ∧ Binds X.K fd ps ds ∧ Vals dvs ds
structure SC where
  sc : Scope
  ow : Str → Bool
def owB (scope : Scope) (x : Str) : Bool := match scope.names.lookup x with
  | some .local => true
  | some .cell => true
  | _ => false
structure OkE (g : GT) (S : SC) (E : XK) (X : Cx) : Prop where
  K : X.K = g.K
  N : X.N = g.N
  nd : X.N.Nodup
  sc : X.env.scope = S.sc
  ow : ∀ x, S.ow x = true → Loc X.env.scope x ∧ (X.fn x = true ∨ X.env.scope.names.lookup x = some .local)
  kd : X.env.scope.kind = .function
  calm : X.calm = true
  un : X.A.units + 100 < cLine
  ps : Passes (L2.CX X.prog X.w) X E
  fn : ∀ x sp dvs, g.G.lookup x = some (.fn sp dvs) → ∃ f k, FnK X f k sp dvs ∧ Room k X.A ∧ X.mg x = some (.ref f) ∧ PySem.W.keepIn X.K (.ref f) = true
  cls : ∀ x C sp dvs, g.G.lookup x = some (.cls C sp dvs) → ∃ f k, FnK X f k sp dvs ∧ Room (k + 1) X.A ∧ X.mg x = some (.ref C) ∧ Mk X.K C f
  con : ∀ x v, g.G.lookup x = some (.con v) → ∃ u, X.mg x = some u ∧ RelV v u
  bl : ∀ x, g.G.lookup x = some .bl → X.mg x = none
  me : ∀ m C sp dvs, g.M.lookup m = some (C, sp, dvs) → ∃ f k, FnK X f k sp dvs ∧ Room k X.A ∧ Cls X.K C ∧ Meth X.K C m f

theorem owB_cases {scope : Scope} {x : Str} (h : owB scope x = true) : scope.names.lookup x = some .local ∨ scope.names.lookup x = some .cell := by
  unfold owB at h
  split at h
  · exact .inl (by assumption)
  · exact .inr (by assumption)
  · cases h
/-- a comprehension's block -/
theorem OkE.blk {g : GT} {S : SC} {E : XK} {X : Cx} (O : OkE g S E X) (s : Shared) (H : Hp) (scope : Scope) (hk : scope.kind = .function) (C : Addr) (cl : List (Str × Addr)) (fp : List Addr) :
    OkE g ⟨relS scope S.sc, owB scope⟩ E0 (X.blk s H scope (compEnvC scope cl C X.env) fp) where
  K := O.K
  N := O.N
  nd := O.nd
  sc := by
    have e := O.sc
    rw [← e]
    rfl
  ow := fun x h => by
    rcases owB_cases h with e | e
    · exact ⟨.inl (lookup_relS_keep (sc := X.env.scope) (by decide) e), .inr (lookup_relS_keep (sc := X.env.scope) (by decide) e)⟩
    · refine ⟨.inr (lookup_relS_keep (sc := X.env.scope) (by decide) e), .inl ?_⟩
      show (scope.names.lookup x == some .cell) = true
      rw [e]
      rfl
  kd := hk
  calm := O.calm
  un := O.un
  ps := passL
  fn := O.fn
  cls := O.cls
  con := O.con
  bl := O.bl
  me := O.me
end Rf
namespace Rf
open PySem L2 PySem.Spec PyProof.Rows

/-! ### subscripts, stores -/
def rIxD : R2 := fun x y H Q => ∃ a v, x = .ref a ∧ DGet H a y (some v) ∧ Q v H
theorem ix_dict {X : Cx} (hu : X.A.units + 1 < cLine) : IxR X rIxD := by
  intro value slice pins s σ H x y v u Q I rx ry h hs
  obtain ⟨a, w', rfl, g, q⟩ := h
  cases rx
  exact tail_any (dict_typeIs I g) PySem.F.slot_dict_getitem.lookup (d_getItem hu I g ry fun w2 s3 I3 rw' => ⟨w', H, I3, rw', q⟩) hs
@[irreducible] def rIxU (K : PySem.W.Frag) : R2 := fun x y H Q => rIx K x y H Q ∨ rIxD x y H Q
theorem ix_u {X : Cx} (hu : X.A.units + 1 < cLine) : IxR X (rIxU X.K) := by
  unfold rIxU
  exact ix_seq.or (ix_dict hu)
def rSetD : TSet := fun o i v H Q => ∃ a H4, o = .ref a ∧ DPut H a i v H4 ∧ Q H4
theorem set_dict {X : Cx} (hu : X.A.units + 1 < cLine) : PSet X rSetD := by
  intro pins s σ H o i v ov iv u Q I ro ri rv h
  obtain ⟨a, H4, rfl, g, q⟩ := h
  cases ro
  exact d_setItem hu I g ri rv fun s4 I4 => ⟨H4, I4, q⟩
@[irreducible] def rSetU : TSet := fun o i v H Q => rSetL o i v H Q ∨ rSetD o i v H Q
theorem set_u {X : Cx} (hu : X.A.units + 1 < cLine) : PSet X rSetU := by
  intro pins s σ H o i v ov iv u Q I ro ri rv h
  unfold rSetU at h
  rcases h with h | h
  · exact set_list pins s σ H o i v ov iv u Q I ro ri rv h
  · exact set_dict hu pins s σ H o i v ov iv u Q I ro ri rv h
@[irreducible] def rSlU (K : PySem.W.Frag) : V → Option Int → Option Int → Hp → VK → Prop := fun x lo hi H Q => rSlL K x lo hi H Q ∨ (∃ z, x = .str z ∧ z.length ≤ sizeLine ∧ Q (.str (cutS z lo hi)) H) ∨ rSlT K x lo hi H Q

/-! ### built-in types' methods, by name -/
structure BM (K : PySem.W.Frag) (m : Str) where
  T : String
  id : String
  pa : PlainAttrs T
  slot : Slot T m id
  hty : typeOf (.builtin id) = pure (.type "method_descriptor")
  r : V → List V → Hp → VK → Prop
  ok : ∀ X : Cx, X.K = K → X.calm = true → X.A.units + 100 < cLine → MtR X id r
def tMtL (K : PySem.W.Frag) (m : Str) (to : TE) (ta : TA) : List (BM K m) → TE
  | [] => fun _ _ _ => False
  | [b] => tBM K b.T b.r to ta
  | b :: c :: r => fun σ H Q => tBM K b.T b.r to ta σ H Q ∨ tMtL K m to ta (c :: r) σ H Q
def tMtL0 (K : PySem.W.Frag) (m : Str) (to : TE) : List (BM K m) → TE
  | [] => fun _ _ _ => False
  | [b] => tBM0 K b.T b.r to
  | b :: c :: r => fun σ H Q => tBM0 K b.T b.r to σ H Q ∨ tMtL0 K m to (c :: r) σ H Q
def mAppend (K) : BM K "append" := ⟨"list", "list.append", PySem.F.plainAttrs_list, PySem.F.slot_list_append, PySem.F.type_list_append, rAppend, fun _ _ _ _ => mt_append⟩
def mExtend (K) : BM K "extend" := ⟨"list", "list.extend", PySem.F.plainAttrs_list, PySem.F.slot_list_extend, PySem.F.type_list_extend, rExtend, fun _ _ _ _ => mt_extend⟩
def mLPop (K) : BM K "pop" := ⟨"list", "list.pop", PySem.F.plainAttrs_list, PySem.F.slot_list_pop, PySem.F.type_list_pop, fun x xs H Q => rPop x xs H Q ∨ rPopAt x xs H Q, fun _ _ _ _ => MtR.or mt_pop mt_popAt⟩
def mLClear (K) : BM K "clear" := ⟨"list", "list.clear", PySem.F.plainAttrs_list, PySem.F.slot_list_clear, PySem.F.type_list_clear, rClear, fun _ _ _ _ => mt_clear⟩
def mLReverse (K) : BM K "reverse" := ⟨"list", "list.reverse", PySem.F.plainAttrs_list, PySem.F.slot_list_reverse, PySem.F.type_list_reverse, rReverse, fun _ _ _ _ => mt_reverse⟩
def mLIndex (K) : BM K "index" := ⟨"list", "list.index", PySem.F.plainAttrs_list, PySem.F.slot_list_index, PySem.F.type_list_index, rIndex K, fun _ e _ _ => e ▸ mt_index⟩
def bmt (K : PySem.W.Frag) (m : Str) : List (BM K m) :=
  if h : m = "append" then [h ▸ mAppend K] else if h : m = "extend" then [h ▸ mExtend K] else if h : m = "pop" then [h ▸ mLPop K] else if h : m = "clear" then [h ▸ mLClear K]
  else if h : m = "reverse" then [h ▸ mLReverse K] else if h : m = "index" then [h ▸ mLIndex K] else []

/-! ### the compiler: expressions -/
def nameK (sc : Scope) (x : Str) : Option Bool := match sc.names.lookup x with
  | some .local => some true
  | some .cell => some true
  | some .free => some true
  | some .globalImplicit => some false
  | _ => none
def badName (x : Str) : Bool := (x == ("__debug__" : Str)) || (x == ("__classdict__" : Str))
def cName (g : GT) (sc : Scope) (x : Str) : Option TE :=
  if badName x then none else match nameK sc x with
  | some true => (ixO g.N x).map tV
  | some false => (match g.G.lookup x with
    | some (.con v) => some (tC v)
    | some .bl => (tyNames.lookup x).map fun T => tC (.ty T)
    | _ => none)
  | none => none
def cConst : Const → Option TE
  | .int i => some (tC (.int i))
  | .bool b => some (tC (.bl b))
  | .none => some (tC .non)
  | .str x => some (tC (.str x))
  | _ => none
def cCallN (g : GT) (sc : Scope) (E : XK) (x : Str) (no : Bool) (ta : TA) : Option TE :=
  if badName x then none else match nameK sc x with
  | some false => (match g.G.lookup x with
    | some (.fn sp dvs) => some (tCall sp dvs E ta)
    | some (.cls C sp dvs) => some (tMake C sp dvs E ta)
    | some .bl => if no then none else (blt g.K x).map fun b => tCB b.r ta
    | _ => none)
  | _ => none
def cCallM (g : GT) (E : XK) (m : Str) (no : Bool) (line : Bool) (to : TE) (ta : TA) : Option TE := match g.M.lookup m with
  | some (C, sp, dvs) => if line then some (tMeth C m sp dvs E to ta) else none
  | none => match bmt g.K m with
    | [] => none
    | b :: r => if line then (if no then some (tMtL0 g.K m to (b :: r)) else some (tMtL g.K m to ta (b :: r))) else none
def tNotT (t : TT) : TE := fun σ H Q => t σ H fun b H1 => Q (.bl (!b)) H1
def ownOf (N : List Str) (scope : Scope) : List (Str × Nat) := scope.names.filterMap fun p => match p.2 with
  | .local => (ixO N p.1).map fun i => (p.1, i)
  | .cell => (ixO N p.1).map fun i => (p.1, i)
  | _ => none
def cTgt (g : GT) (S : SC) : Expr → Option TG
  | .Name x _ => if S.ow x then (ixO g.N x).map gName else none
  | _ => none
def cTgts (g : GT) (S : SC) : List Expr → Option TGs
  | [] => some gNil
  | e :: r => (cTgt g S e).bind fun t => (cTgts g S r).map fun u => gCons t u
def cTg (g : GT) (S : SC) : Expr → Option TG
  | .Name x p => cTgt g S (.Name x p)
  | .Tuple es _ _ => if es.all noStar then (cTgts g S es).map fun t => gTup g.K es.length t else none
  | _ => none
def iSeq (K : PySem.W.Frag) (te : TE) : TI := fun σ H R => te σ H fun x H1 => match x with
  | .ref a => (∃ xs, SqL K H1 a xs ∧ R (Itl K a) H1) ∨ ∃ xs, SqT K H1 a xs ∧ R (Itt K a) H1
  | .str x => R (Its x) H1
  | _ => False
def glb (g : GT) (sc : Scope) (x : Str) : Bool := (match nameK sc x with | some false => true | _ => false) && (match g.G.lookup x with | some .bl => true | _ => false)

def cF (f : Expr → Option TT) : List Expr → Option TT
  | [] => some tYes
  | [c] => f c
  | _ => none
def cP (f : Expr → Option TE) : List (Option Expr) → List Expr → Option (List (TE × TE))
  | [], [] => some []
  | some k :: ks, v :: vs => (f k).bind fun tk => (f v).bind fun tv => (cP f ks vs).map fun r => (tk, tv) :: r
  | _, _ => none
def cO (f : Expr → Option TE) : Option Expr → Option TO
  | none => some tNoPart
  | some e => (f e).map tPart
def cA (f : Expr → Option TE) : List Expr → Option TA
  | [] => some tNil
  | e :: es => if noStar e then (f e).bind fun te => (cA f es).map fun ta => tCons te ta else none
def maybeD : Expr → Bool
  | .List .. => false
  | .Tuple .. => false
  | .BinOp .. => false
  | .Constant .. => false
  | _ => true
def seqOr (K : PySem.W.Frag) (b : Bool) (t : TE) : List (Bool × TI) := if b then [(false, iSeq K t), (true, iKeys t)] else [(false, iSeq K t)]
/-- what is walked: the ways to read it; true: under a lock -/
def cI (g : GT) (S : SC) (f : Expr → Option TE) (tg : Expr) : Expr → Option (List (Bool × TI))
  | .Call (.Name x p) es [] q =>
    if x = "range" then (if glb g S.sc x then (match es with
      | [a] => (cA f [a]).map fun t => [(false, iRng1 t)]
      | [a, b] => (cA f [a, b]).map fun t => [(false, iRng2 t)]
      | _ => none) else none)
    else if x = "enumerate" then (if glb g S.sc x then (match es, tg with
      | [a], .Tuple _ _ _ => (cA f [a]).map fun t => [(false, iEnum g.K t)]
      | _, _ => none) else none)
    else if x = "zip" then (if glb g S.sc x then (match es, tg with
      | [a, b], .Tuple _ _ _ => (cA f [a, b]).map fun t => [(false, iZip g.K t)]
      | _, _ => none) else none)
    else (f (.Call (.Name x p) es [] q)).map (seqOr g.K true)
  | e => (f e).map (seqOr g.K (maybeD e))
def orE : List TE → TE
  | [] => fun _ _ _ => False
  | [a] => a
  | a :: b :: r => fun σ H Q => a σ H Q ∨ orE (b :: r) σ H Q
def orS : List TS → TS
  | [] => fun _ _ _ => False
  | [a] => a
  | a :: b :: r => fun D σ H => a D σ H ∨ orS (b :: r) D σ H
/-- a for over what is walked; a list gathered over it -/
@[irreducible] def forU (J : It) (g : TG) (tb : TS) (D : Ends) (σ : L2.St) (H1 : Hp) : Prop := ∃ W : Nat → Nat → L2.St → Hp → Prop, (∃ m, W 0 m σ H1) ∧ ∀ i m σ H, W i m σ H →
  (J.stop i H ∧ D.nx σ H) ∨ (J.go i H ∧ ∃ N : L2.St → Hp → Prop, (∀ σ' H', N σ' H' → ∃ m', m' < m ∧ W (i + 1) m' σ' H') ∧ ∀ x H', J.yld i H x H' → g x σ H' fun σ2 H2 => tb { D with nx := N, ct := N, bk := D.nx } σ2 H2)
@[irreducible] def lcU (J : It) (g : TG) (tt : TT) (te : TE) (vs : List Nat) (σ : L2.St) (H1 : Hp) (Q : VK) : Prop := ∀ D, H1 D = none → ∃ W : Nat → Nat → Hp → Prop, (∃ m, W 0 m (upd H1 D (.lst []))) ∧ ∀ i m H, W i m H →
  (J.stop i H ∧ Q (.ref D) H) ∨ (J.go i H ∧ ∃ Nx : Hp → Prop, (∀ H', Nx H' → ∃ m', m' < m ∧ W (i + 1) m' H') ∧ ∀ x H', J.yld i H x H' → g x (wipe σ vs) H' fun σ2 H2 => wipe σ2 vs = wipe σ vs ∧ tt σ2 H2 fun b H3 =>
    cnd b (te σ2 H3 fun y H4 => ∃ acc, H4 D = some (.lst acc) ∧ acc.length < sizeLine ∧ Nx (upd H4 D (.lst (acc ++ [y])))) (Nx H3))
def tForU (wi : TI) (g : TG) (tb : TS) : TS := fun D σ H => wi σ H fun J H1 => forU J g tb D σ H1
def tLcU (wi : TI) (g : TG) (tt : TT) (te : TE) (vs : List Nat) : TE := fun σ H Q => wi σ H fun J H1 => lcU J g tt te vs σ H1 Q
theorem cnd_if {b : Bool} {A B : Prop} : cnd b A B = if b = true then A else B := by
  cases b
  · rw [cnd_f]; rfl
  · rw [cnd_t]; rfl
theorem tForU_eq : tForU = tFor := by
  funext wi g tb D σ H
  unfold tForU forU
  rfl
theorem tLcU_eq : tLcU = tLc := by
  funext wi g tt te vs σ H Q
  unfold tLcU lcU
  simp only [cnd_if]
  rfl
def lcE (ws : List (Bool × TI)) (g : TG) (tt : TT) (te : TE) (vs : List Nat) : TE := orE (ws.map fun w => if w.1 then tLockE (tLcU w.2 g tt te vs) else tLcU w.2 g tt te vs)
def lcS (ws : List (Bool × TI)) (g : TG) (tt : TT) (te : TE) (vs : List Nat) (i : Nat) : TS := orS (ws.map fun w => if w.1 then tLock (tAsg (tLcU w.2 g tt te vs) (gName i)) else tAsg (tLcU w.2 g tt te vs) (gName i))
def forS (ws : List (Bool × TI)) (g : TG) (tb : TS) : TS := orS (ws.map fun w => if w.1 then tLock (tForU w.2 g tb) else tForU w.2 g tb)
mutual
def cE (g : GT) : Nat → SC → XK → Expr → Option TE
  | 0, _, _, _ => none
  | n + 1, S, E, e => match e with
    | .Name x _ => cName g S.sc x
    | .Constant c _ _ => cConst c
    | .BinOp a op b _ => (rBin g.K op).bind fun r => (cE g n S E a).bind fun ta => (cE g n S E b).map fun tb => tOp r ta tb
    | .UnaryOp op a _ => (match op with
      | .USub => (cE g n S E a).map fun ta => tUn rNegU ta
      | .Not => (cE g n S E a).map fun ta => tNotU ta
      | _ => none)
    | .BoolOp op vs p => (match vs with
      | [a] => cE g n S E a
      | a :: b :: r => (cE g n S E a).bind fun ta => (cE g n S E (.BoolOp op (b :: r) p)).map fun tb => (match op with
        | .And => tAndU ta tb
        | .Or => tOrU ta tb)
      | [] => none)
    | .Compare a ops bs _ => (match ops, bs with
      | [op], [b] => if noSet b then (rCmp g.K op).bind fun r => (cE g n S E a).bind fun ta => (cE g n S E b).map fun tb => tOp r ta tb else none
      | [op, op'], [b, c] => if noSet c then (rCmp g.K op).bind fun r => (rCmp g.K op').bind fun r' => (cE g n S E a).bind fun ta => (cE g n S E b).bind fun tb => (cE g n S E c).map fun tc => tChU r r' ta tb tc else none
      | _, _ => none)
    | .Call f es kw p => (match f, kw with
      | .Name x _, [] => (cA (cE g n S E) es).bind fun ta => cCallN g S.sc E x es.isEmpty ta
      | .Attribute o m ap, [] => if noSup o && decide (es.length < 20) then (cE g n S E o).bind fun to => (cA (cE g n S E) es).bind fun ta => cCallM g E m es.isEmpty (ap.endLine == p.line) to ta else none
      | _, _ => none)
    | .Attribute o f _ => if noSup o then (cE g n S E o).map fun to => tFld g.K to f else none
    | .Subscript a b _ => (match b with
      | .Slice lo hi st _ => (match st with
        | none => (cE g n S E a).bind fun ta => (cO (cE g n S E) lo).bind fun tl => (cO (cE g n S E) hi).map fun th => tSl (rSlU g.K) ta tl th
        | some _ => none)
      | b => (cE g n S E a).bind fun ta => (cE g n S E b).map fun tb => tOp (rIxU g.K) ta tb)
    | .List es _ => (cA (cE g n S E) es).map tLst
    | .Tuple es _ _ => (cA (cE g n S E) es).map tTup
    | .Dict ks vs _ => (match ks, vs with
      | [], [] => some fun σ H Q => tDNewK σ H Q ∨ tDNewT σ H Q
      | k :: ks, v :: vs => if (k :: ks).all (·.isSome) && decide ((k :: ks).length = (v :: vs).length) && decide ((k :: ks).length ≤ 15) then (cP (cE g n S E) (k :: ks) (v :: vs)).map tDisp else none
      | _, _ => none)
    | .IfExp c a b _ => (cT g n S E c).bind fun tc => (cE g n S E a).bind fun ta => (cE g n S E b).map fun tb => uIfE tc ta tb
    | .ListComp elt gens scope _ => (match gens with
      | [⟨tg, iter, ifs, k⟩] =>
        if blkC g.N S.sc scope (ownOf g.N scope) && noSet iter && (k == 0) then
          (cI g S (cE g n S E) tg iter).bind fun wi => (cTg g ⟨relS scope S.sc, owB scope⟩ tg).bind fun tt => (cF (cT g n ⟨relS scope S.sc, owB scope⟩ E0) ifs).bind fun tf =>
            (cE g n ⟨relS scope S.sc, owB scope⟩ E0 elt).map fun te => lcE wi tt tf te ((ownOf g.N scope).map (·.2))
        else none
      | _ => none)
    | _ => none
def cT (g : GT) : Nat → SC → XK → Expr → Option TT
  | 0, _, _, _ => none
  | n + 1, S, E, e => match e with
    | .UnaryOp op a _ => (match op with
      | .Not => (cT g n S E a).map tNot
      | _ => none)
    | .BoolOp op vs p => (match vs with
      | [a] => cT g n S E a
      | a :: b :: r => (cT g n S E a).bind fun ta => (cT g n S E (.BoolOp op (b :: r) p)).map fun tb => (match op with
        | .And => uAnd ta tb
        | .Or => uOr ta tb)
      | [] => none)
    | .Compare a ops bs _ => (match ops, bs with
      | [op], [b] => if noSet b then (rCmp g.K op).bind fun r => (cE g n S E a).bind fun ta => (cE g n S E b).map fun tb => tBo (tOp r ta tb) else none
      | [op, op'], [b, c] => if noSet c then (rCmp g.K op).bind fun r => (rCmp g.K op').bind fun r' => (cE g n S E a).bind fun ta => (cE g n S E b).bind fun tb => (cE g n S E c).map fun tc => tBo (tChU r r' ta tb tc) else none
      | _, _ => none)
    | .IfExp .. => none
    | e => (cE g n S E e).map (tTru g.K)
end
end Rf
namespace Rf
open PySem L2 PySem.Spec PyProof.Rows

theorem badName_ok {x : Str} (h : badName x = false) : (x == ("__debug__" : Str)) = false ∧ (x == ("__classdict__" : Str)) = false := by
  unfold badName at h
  exact Bool.or_eq_false_iff.mp h
theorem nameK_own {sc : Scope} {x : Str} (h : nameK sc x = some true) : Vis sc x := by
  unfold nameK at h
  split at h
  · exact .inl (by assumption)
  · exact .inr (.inl (by assumption))
  · exact .inr (.inr (by assumption))
  · cases h
  · cases h
theorem nameK_glob {sc : Scope} {x : Str} (h : nameK sc x = some false) : sc.names.lookup x = some .globalImplicit := by
  unfold nameK at h
  split at h
  · cases h
  · cases h
  · cases h
  · assumption
  · cases h
section
variable {g : GT} {S : SC} {E : XK} {X : Cx}
theorem OkE.gl (O : OkE g S E X) {x : Str} (h : nameK S.sc x = some false) : Gl X x := by
  have e := nameK_glob h
  rw [← O.sc] at e
  exact e
theorem cName_ok (O : OkE g S E X) {x : Str} {pos : Pos} {t : TE} (h : cName g S.sc x = some t) : PE X (.Name x pos) t := by
  unfold cName at h
  cases hb : badName x with
  | true => rw [hb] at h; cases h
  | false =>
    rw [hb] at h
    obtain ⟨hd, hc⟩ := badName_ok hb
    cases hk : nameK S.sc x with
    | none => rw [hk] at h; cases h
    | some b =>
      rw [hk] at h
      cases b with
      | true =>
        obtain ⟨i, hi, rfl⟩ := Option.map_eq_some_iff.mp (show (ixO g.N x).map tV = some t from h)
        have v := nameK_own hk
        rw [← O.sc] at v
        have hN := ixO_ok hi
        rw [← O.N] at hN
        exact pe_v hN v hd hc
      | false =>
        have hg := O.gl hk
        have h2 : (match g.G.lookup x with
          | some (.con v) => some (tC v)
          | some .bl => (tyNames.lookup x).map fun T => tC (.ty T)
          | _ => none) = some t := h
        cases hG : g.G.lookup x with
        | none => rw [hG] at h2; cases h2
        | some k =>
          rw [hG] at h2
          cases k with
          | con v =>
            cases h2
            obtain ⟨u, hu, r⟩ := O.con x v hG
            exact pe_glob hg hu r hd
          | bl =>
            obtain ⟨T, hT, rfl⟩ := Option.map_eq_some_iff.mp (show (tyNames.lookup x).map (fun T => tC (.ty T)) = some t from h2)
            have m := PySem.mem_of_lookup hT
            have ok := List.all_eq_true.mp tyNames_ok _ m
            obtain ⟨o1, o2⟩ := Bool.and_eq_true_iff.mp ok
            exact pe_bltn (v := .ty T) hg (O.bl x hG) (of_decide_eq_true o1) rfl (of_decide_eq_true o2) hd
          | fn _ _ => cases h2
          | cls _ _ _ => cases h2
theorem cConst_ok {c : Const} {j : Nat} {pos : Pos} {t : TE} (h : cConst c = some t) : PE X (.Constant c j pos) t := by
  cases c <;> first | cases h | skip
  · exact pe_non
  · exact pe_bl
  · exact pe_int
  · exact pe_str
theorem cA_ok {f : Expr → Option TE} (hf : ∀ e t, f e = some t → PE X e t) : ∀ {es : List Expr} {t : TA}, cA f es = some t → PA X es t ∧ es.all noStar = true ∧ (es = [] → t = tNil)
  | [], t, h => by
    cases h
    exact ⟨pa_nil, rfl, fun _ => rfl⟩
  | e :: es, t, h => by
    unfold cA at h
    cases hs : noStar e with
    | false => rw [hs] at h; cases h
    | true =>
      rw [hs] at h
      obtain ⟨te, h1, h2⟩ := Option.bind_eq_some_iff.mp (show ((f e).bind fun te => (cA f es).map fun ta => tCons te ta) = some t from h)
      obtain ⟨ta, h3, rfl⟩ := Option.map_eq_some_iff.mp h2
      obtain ⟨q1, q2, _⟩ := cA_ok hf h3
      exact ⟨pa_cons (hf e te h1) q1 (star_cons hs), by simp [hs, q2], fun z => nomatch z⟩
theorem cO_ok {f : Expr → Option TE} (hf : ∀ e t, f e = some t → PE X e t) {e : Option Expr} {t : TO} (h : cO f e = some t) : PO X e t := by
  cases e with
  | none => cases h; exact po_none
  | some e =>
    obtain ⟨te, h1, rfl⟩ := Option.map_eq_some_iff.mp (show (f e).map tPart = some t from h)
    exact po_some (hf e te h1)
theorem cCallN_ok (O : OkE g S E X) {x : Str} {p pos : Pos} {es : List Expr} {ta : TA} {t : TE} (hs : es.all noStar = true) (hz : es = [] → ta = tNil) (ha : PA X es ta) (h : cCallN g S.sc E x es.isEmpty ta = some t) : PE X (.Call (.Name x p) es [] pos) t := by
  unfold cCallN at h
  cases hb : badName x with
  | true => rw [hb] at h; cases h
  | false =>
    rw [hb] at h
    obtain ⟨hd, hc⟩ := badName_ok hb
    cases hk : nameK S.sc x with
    | none => rw [hk] at h; cases h
    | some b =>
      rw [hk] at h
      cases b with
      | true => cases h
      | false =>
        have hg := O.gl hk
        have h2 : (match g.G.lookup x with
          | some (.fn sp dvs) => some (tCall sp dvs E ta)
          | some (.cls C sp dvs) => some (tMake C sp dvs E ta)
          | some .bl => if es.isEmpty then none else (blt g.K x).map fun b => tCB b.r ta
          | _ => none) = some t := h
        cases hG : g.G.lookup x with
        | none => rw [hG] at h2; cases h2
        | some k =>
          rw [hG] at h2
          cases k with
          | con v => cases h2
          | fn sp dvs =>
            cases h2
            obtain ⟨f, k, ⟨fd, ps, ds, F, b, d⟩, hr, hm, kp⟩ := O.fn x sp dvs hG
            cases es with
            | nil =>
              rw [hz rfl]
              exact pe_call0 F hr hg hm kp b d O.ps hd
            | cons e es =>
              obtain ⟨s1, s2⟩ := Bool.and_eq_true_iff.mp (show (noStar e && es.all noStar) = true from hs)
              exact pe_call F hr hg hm kp b d O.ps ha hd (star_cons s1) (star_none s2)
          | cls C sp dvs =>
            cases h2
            obtain ⟨f, k, ⟨fd, ps, ds, F, b, d⟩, hr, hm, mk⟩ := O.cls x C sp dvs hG
            cases es with
            | nil =>
              rw [hz rfl]
              exact pe_make0 mk F hr hg hm b d O.ps hd
            | cons e es =>
              obtain ⟨s1, s2⟩ := Bool.and_eq_true_iff.mp (show (noStar e && es.all noStar) = true from hs)
              exact pe_make mk F hr hg hm b d O.ps ha hd (star_cons s1) (star_none s2)
          | bl =>
            cases es with
            | nil => cases h2
            | cons e es =>
              obtain ⟨s1, s2⟩ := Bool.and_eq_true_iff.mp (show (noStar e && es.all noStar) = true from hs)
              obtain ⟨b, hbl, rfl⟩ := Option.map_eq_some_iff.mp (show (blt g.K x).map (fun b => tCB b.r ta) = some t from h2)
              have ok := b.ok X O.K O.calm O.un
              have bo := b.boot
              rcases b.kind with ⟨id, e1⟩ | ⟨T, e1⟩
              · rw [e1] at ok bo
                exact pe_callB ok hg (O.bl x hG) bo ha b.nm hd (star_cons s1) (star_none s2)
              · rw [e1] at ok bo
                exact pe_callTy ok hg (O.bl x hG) bo ha b.nm hd (star_cons s1) (star_none s2)
theorem few_ok {es : List Expr} {env : Env} {cpos : Pos} (hs : es.all noStar = true) (hl : es.length < 20) : ((backTo cpos (starEach es env)).all (fun x => !x.1) && (backToKw cpos (keywordEach [] env)).all (fun x => x.1.isSome)
      && decide (es.length + ([] : List Keyword).length + (if ([] : List Keyword).isEmpty then 0 else 1) < 30)) = true := by
  have h1 : (backTo cpos (starEach es env)).all (fun x => !x.1) = true := by
    have h2 := star_none (pos := cpos) (env := env) hs
    rw [List.any_eq_false] at h2
    rw [List.all_eq_true]
    intro y hy
    have := h2 y hy
    simpa using this
  rw [h1]
  show (true && true && decide (es.length + 0 + 0 < 30)) = true
  simp
  omega
theorem mt_one (O : OkE g S E X) {m : Str} {o : Expr} {es : List Expr} {ap pos : Pos} {to : TE} {ta : TA} (b : BM g.K m) (ho : PE X o to) (hs : es.all noStar = true) (ha : PA X es ta) (hb : noSup o = true) (hl : es.length < 20) (hn : (ap.endLine == pos.line) = true)
    (h0 : es ≠ []) : PE X (.Call (.Attribute o m ap) es [] pos) (tBM g.K b.T b.r to ta) := by
  cases es with
  | nil => exact absurd rfl h0
  | cons e es =>
    obtain ⟨s1, s2⟩ := Bool.and_eq_true_iff.mp (show (noStar e && es.all noStar) = true from hs)
    have q := pe_bm (X := X) b.pa b.slot b.hty (b.ok X O.K O.calm O.un) ho ha (base_no hb) (few_ok hs hl) hn (star_cons s1) (star_none s2)
    rw [O.K] at q
    exact q
theorem mt_zero (O : OkE g S E X) {m : Str} {o : Expr} {ap pos : Pos} {to : TE} (b : BM g.K m) (ho : PE X o to) (hb : noSup o = true) (hn : (ap.endLine == pos.line) = true) : PE X (.Call (.Attribute o m ap) [] [] pos) (tBM0 g.K b.T b.r to) := by
  have q := pe_bm0 (X := X) b.pa b.slot b.hty (b.ok X O.K O.calm O.un) ho (base_no hb) hn
  rw [O.K] at q
  exact q
theorem mtL_ok (O : OkE g S E X) {m : Str} {o : Expr} {es : List Expr} {ap pos : Pos} {to : TE} {ta : TA} (ho : PE X o to) (hs : es.all noStar = true) (ha : PA X es ta) (hb : noSup o = true) (hl : es.length < 20) (hn : (ap.endLine == pos.line) = true)
    (h0 : es ≠ []) : ∀ {bs : List (BM g.K m)}, bs ≠ [] → PE X (.Call (.Attribute o m ap) es [] pos) (tMtL g.K m to ta bs)
  | [], z => absurd rfl z
  | [b], _ => mt_one O b ho hs ha hb hl hn h0
  | b :: c :: r, _ => peOr (mt_one O b ho hs ha hb hl hn h0) (mtL_ok O ho hs ha hb hl hn h0 (bs := c :: r) (fun z => nomatch z))
theorem mtL0_ok (O : OkE g S E X) {m : Str} {o : Expr} {ap pos : Pos} {to : TE} (ho : PE X o to) (hb : noSup o = true) (hn : (ap.endLine == pos.line) = true) :
    ∀ {bs : List (BM g.K m)}, bs ≠ [] → PE X (.Call (.Attribute o m ap) [] [] pos) (tMtL0 g.K m to bs)
  | [], z => absurd rfl z
  | [b], _ => mt_zero O b ho hb hn
  | b :: c :: r, _ => peOr (mt_zero O b ho hb hn) (mtL0_ok O ho hb hn (bs := c :: r) (fun z => nomatch z))
theorem meth_form {o : Expr} {m : Str} {es : List Expr} {ap pos : Pos} {env : Env} (hb : noSup o = true) (hs : es.all noStar = true) (hl : es.length < 20) (hn : (ap.endLine == pos.line) = true) :
    eval (.Call (.Attribute o m ap) es [] pos) env = (do
      let ov ← eval o env
      standAt ap.atName
      let (f, first) ← holding [ov] (getMethod ov m (do return (← importBound o env).getD true))
      callWith pos f first (backTo pos (starEach es env)) (backToKw pos (keywordEach [] env))) := by
  show (do
    let ov ← attributeBase o m env (eval o env)
    standAt ap.atName
    methodCall o m ap pos env ov (es.length + ([] : List Keyword).length) (backTo pos (starEach es env)) (backToKw pos (keywordEach [] env))) = _
  rw [base_no hb]
  have few : methodCallForm (es.length + ([] : List Keyword).length) (backTo pos (starEach es env)) (backToKw pos (keywordEach [] env)) = true := few_ok hs hl
  unfold methodCall
  rw [few]
  unfold methodCallPos calleeOf
  rw [hn]
  rfl
theorem cCallM_ok (O : OkE g S E X) {m : Str} {o : Expr} {ap pos : Pos} {es : List Expr} {to : TE} {ta : TA} {t : TE} (ho : PE X o to) (hs : es.all noStar = true) (hz : es = [] → ta = tNil) (ha : PA X es ta) (hb : noSup o = true) (hl : es.length < 20)
    (h : cCallM g E m es.isEmpty (ap.endLine == pos.line) to ta = some t) : PE X (.Call (.Attribute o m ap) es [] pos) t := by
  unfold cCallM at h
  cases hM : g.M.lookup m with
  | some v =>
    obtain ⟨C, sp, dvs⟩ := v
    rw [hM] at h
    by_cases hn : (ap.endLine == pos.line) = true
    case neg =>
      have h3 : (if (ap.endLine == pos.line) = true then some (tMeth C m sp dvs E to ta) else none) = some t := h
      rw [if_neg hn] at h3
      cases h3
    have h3 : (if (ap.endLine == pos.line) = true then some (tMeth C m sp dvs E to ta) else none) = some t := h
    rw [if_pos hn] at h3
    cases h3
    obtain ⟨f, k, ⟨fd, ps, ds, F, b, d⟩, hr, c, me⟩ := O.me m C sp dvs hM
    cases es with
    | nil =>
      rw [hz rfl]
      exact pe_meth0 ho c me F hr b d O.ps (meth_form hb hs hl hn)
    | cons e es =>
      obtain ⟨s1, s2⟩ := Bool.and_eq_true_iff.mp (show (noStar e && es.all noStar) = true from hs)
      exact pe_meth ho c me F hr b d O.ps ha (star_cons s1) (star_none s2) (meth_form hb hs hl hn)
  | none =>
    rw [hM] at h
    have h2 : (match bmt g.K m with
      | [] => none
      | b :: r => if (ap.endLine == pos.line) = true then (if es.isEmpty = true then some (tMtL0 g.K m to (b :: r)) else some (tMtL g.K m to ta (b :: r))) else none) = some t := h
    cases hB : bmt g.K m with
    | nil => rw [hB] at h2; cases h2
    | cons b r =>
      rw [hB] at h2
      by_cases hn : (ap.endLine == pos.line) = true
      · have h3 : (if (ap.endLine == pos.line) = true then (if es.isEmpty = true then some (tMtL0 g.K m to (b :: r)) else some (tMtL g.K m to ta (b :: r))) else none) = some t := h2
        rw [if_pos hn] at h3
        cases es with
        | nil =>
          cases h3
          exact mtL0_ok O ho hb hn (fun z => nomatch z)
        | cons e es =>
          cases h3
          exact mtL_ok O ho hs ha hb hl hn (fun z => nomatch z) (fun z => nomatch z)
      · have h3 : (if (ap.endLine == pos.line) = true then (if es.isEmpty = true then some (tMtL0 g.K m to (b :: r)) else some (tMtL g.K m to ta (b :: r))) else none) = some t := h2
        rw [if_neg hn] at h3
        cases h3
end
end Rf
namespace Rf
open PySem L2 PySem.Spec PyProof.Rows

theorem sl_u {X : Cx} : SlR X (rSlU X.K) := by
  unfold rSlU
  exact SlR.or sl_list (SlR.or sl_str sl_tup)
theorem asg_len {env : Env} : ∀ {es : List Expr}, (assignEach es env).length = es.length
  | [] => rfl
  | e :: es => by
    have ih := asg_len (env := env) (es := es)
    cases e <;> exact congrArg (· + 1) ih
theorem asg_cons {e : Expr} {es : List Expr} {env : Env} (h : noStar e = true) : assignEach (e :: es) env = (false, assign e env) :: assignEach es env := by
  cases e <;> first | rfl | cases h
theorem asg_none {env : Env} : ∀ {es : List Expr}, es.all noStar = true → (assignEach es env).findIdx? (·.1) = none
  | [], _ => rfl
  | e :: es, h => by
    obtain ⟨h1, h2⟩ := Bool.and_eq_true_iff.mp (show (noStar e && es.all noStar) = true from h)
    rw [asg_cons h1, List.findIdx?_cons]
    rw [asg_none h2]
    rfl
section
variable {g : GT} {S : SC} {E : XK} {X : Cx}
theorem cTgt_ok (O : OkE g S E X) {e : Expr} {t : TG} (h : cTgt g S e = some t) : PG X e t ∧ noStar e = true := by
  cases e <;> first | cases h | skip
  rename_i x p
  by_cases hw : S.ow x = true
  · have h2 : (if S.ow x = true then (ixO g.N x).map gName else none) = some t := h
    rw [if_pos hw] at h2
    obtain ⟨i, hi, rfl⟩ := Option.map_eq_some_iff.mp h2
    have hN := ixO_ok hi
    rw [← O.N] at hN
    obtain ⟨l1, l2⟩ := O.ow x hw
    exact ⟨pg_name O.nd hN l1 l2, rfl⟩
  · have h2 : (if S.ow x = true then (ixO g.N x).map gName else none) = some t := h
    rw [if_neg hw] at h2
    cases h2
theorem cTgts_ok (O : OkE g S E X) : ∀ {es : List Expr} {t : TGs}, cTgts g S es = some t → PGs X es t
  | [], t, h => by
    cases h
    exact pgs_nil
  | e :: es, t, h => by
    obtain ⟨te, h1, h2⟩ := Option.bind_eq_some_iff.mp (show ((cTgt g S e).bind fun t => (cTgts g S es).map fun u => gCons t u) = some t from h)
    obtain ⟨u, h3, rfl⟩ := Option.map_eq_some_iff.mp h2
    obtain ⟨p1, p2⟩ := cTgt_ok O h1
    exact pgs_cons p1 (cTgts_ok O h3) (by rw [asg_cons p2]; rfl)
theorem cTg_ok (O : OkE g S E X) {e : Expr} {t : TG} (h : cTg g S e = some t) : PG X e t := by
  cases e <;> first | cases h | skip
  · rename_i x p
    exact (cTgt_ok O (show cTgt g S (.Name x p) = some t from h)).1
  · rename_i es k p
    have h2 : (if es.all noStar then (cTgts g S es).map fun t => gTup g.K es.length t else none) = some t := h
    by_cases hs : es.all noStar = true
    · rw [if_pos hs] at h2
      obtain ⟨u, h3, rfl⟩ := Option.map_eq_some_iff.mp h2
      rw [← O.K]
      exact pg_tup O.calm (cTgts_ok O h3) asg_len (asg_none hs)
    · rw [if_neg hs] at h2
      cases h2
theorem glb_ok (O : OkE g S E X) {x : Str} (h : glb g S.sc x = true) : Gl X x ∧ X.mg x = none := by
  unfold glb at h
  obtain ⟨h1, h2⟩ := Bool.and_eq_true_iff.mp h
  constructor
  · refine O.gl ?_
    split at h1
    · assumption
    · cases h1
  · refine O.bl x ?_
    split at h2
    · assumption
    · cases h2
theorem iSeq_ok {tg e : Expr} {te : TE} (h : PE X e te) (hK : X.K = g.K) : PI X tg e (iSeq g.K te) := by
  rw [← hK]
  refine ⟨fun pins s σ H R I hw => ?_⟩
  refine thn (h.run pins s σ H _ I hw) fun v s1 ⟨x, H1, I1, r1, q1⟩ => ?_
  cases x <;> first | exact False.elim q1 | skip
  · rename_i z
    obtain ⟨t, rfl⟩ := r1
    have q : R (Its z) H1 := q1
    cases ha : z.cps.all (· < 128)
    · exact wpAny_pyIter_wide ha (pi_one (tk := s1.toks) I1 _ (turn_str _ z t "str_iterator" (.inr rfl)) ⟨_, Heap.get?_push_size _ rfl, rfl, rfl⟩ q)
    · exact wpAny_pyIter_ascii ha (pi_one (tk := s1.toks) I1 _ (turn_str _ z t "str_ascii_iterator" (.inl rfl)) ⟨_, Heap.get?_push_size _ rfl, rfl, rfl⟩ q)
  · rename_i a
    have q2 : (∃ xs, SqL X.K H1 a xs ∧ R (Itl X.K a) H1) ∨ ∃ xs, SqT X.K H1 a xs ∧ R (Itt X.K a) H1 := q1
    cases r1
    rcases q2 with ⟨xs, hq, q⟩ | ⟨xs, hq, q⟩
    · obtain ⟨its, rv, p, hz⟩ := I1.list hq
      refine wpAny_pyIter_list p.isList ?_
      refine ⟨s1.heap.objs.size, [s1.heap.objs.size], _, _, H1, rfl, I1.kept (t' := s1.toks) fun b o e => Heap.get?_push_of_some _ e, turn_list a _, ⟨_, Heap.get?_push_size _ rfl, rfl, rfl⟩, fun b hb => ?_, q⟩
      have e : b = s1.heap.objs.size := by simpa using hb
      subst e
      exact I1.fpOk (Nat.le_refl _) (I1.hok.fresh (Nat.le_refl _))
    · obtain ⟨its, rv, p, hz⟩ := I1.tuple hq
      refine wpAny_pyIter_tuple (show s1.heap.IsTuple a its.toArray from p) ?_
      refine ⟨s1.heap.objs.size, [s1.heap.objs.size], _, _, H1, rfl, I1.kept (t' := s1.toks) fun b o e => Heap.get?_push_of_some _ e, turn_tuple a _, ⟨_, Heap.get?_push_size _ rfl, rfl, rfl⟩, fun b hb => ?_, q⟩
      have e : b = s1.heap.objs.size := by simpa using hb
      subst e
      exact I1.fpOk (Nat.le_refl _) (I1.hok.fresh (Nat.le_refl _))
def PIs (X : Cx) (tg e : Expr) (ws : List (Bool × TI)) : Prop := ∀ w ∈ ws, PI X tg e w.2
theorem pis_one {tg e : Expr} {b : Bool} {t : TI} (h : PI X tg e t) : PIs X tg e [(b, t)] := fun w hw => by
  have e : w = (b, t) := by simpa using hw
  subst e
  exact h
theorem cI_ok (O : OkE g S E X) {f : Expr → Option TE} (hf : ∀ e t, f e = some t → PE X e t) {tg e : Expr} {t : List (Bool × TI)} (h : cI g S f tg e = some t) : PIs X tg e t := by
  have dflt : ∀ {b : Bool} {t : List (Bool × TI)}, ((f e).map (seqOr g.K b)) = some t → PIs X tg e t := fun {b t} h => by
    obtain ⟨te, h1, rfl⟩ := Option.map_eq_some_iff.mp h
    have p1 : PI X tg e (iSeq g.K te) := iSeq_ok (hf e te h1) O.K
    cases b with
    | false => exact pis_one p1
    | true =>
      intro w hw
      rcases List.mem_cons.mp (show w ∈ [(false, iSeq g.K te), (true, iKeys te)] from hw) with e1 | hw
      · subst e1
        exact p1
      · have e1 : w = (true, iKeys te) := by simpa using hw
        subst e1
        exact pi_keys (hf e te h1)
  unfold cI at h
  split at h
  · rename_i x p es q
    by_cases e1 : x = "range"
    · rw [if_pos e1] at h
      subst e1
      by_cases e2 : glb g S.sc "range" = true
      · rw [if_pos e2] at h
        obtain ⟨hg, hm⟩ := glb_ok O e2
        split at h
        · obtain ⟨ta, h1, rfl⟩ := Option.map_eq_some_iff.mp h
          obtain ⟨q1, q2, _⟩ := cA_ok hf h1
          exact pis_one (pi_range1 hg hm q1 (star_cons (by simpa using q2)))
        · rename_i a b
          obtain ⟨ta, h1, rfl⟩ := Option.map_eq_some_iff.mp h
          obtain ⟨q1, q2, _⟩ := cA_ok hf h1
          have q3 : noStar a = true ∧ noStar b = true := by simpa using q2
          exact pis_one (pi_range2 hg hm q1 (by rw [star_cons q3.1, star_cons q3.2]; rfl) (by rw [star_cons q3.2]; rfl))
        · cases h
      · rw [if_neg e2] at h
        cases h
    · rw [if_neg e1] at h
      by_cases e1 : x = "enumerate"
      · rw [if_pos e1] at h
        subst e1
        by_cases e2 : glb g S.sc "enumerate" = true
        · rw [if_pos e2] at h
          obtain ⟨hg, hm⟩ := glb_ok O e2
          split at h
          · obtain ⟨ta, h1, rfl⟩ := Option.map_eq_some_iff.mp h
            obtain ⟨q1, q2, _⟩ := cA_ok hf h1
            rw [← O.K]
            exact pis_one (pi_enum hg hm q1 (star_cons (by simpa using q2)))
          · cases h
        · rw [if_neg e2] at h
          cases h
      · rw [if_neg e1] at h
        by_cases e1 : x = "zip"
        · rw [if_pos e1] at h
          subst e1
          by_cases e2 : glb g S.sc "zip" = true
          · rw [if_pos e2] at h
            obtain ⟨hg, hm⟩ := glb_ok O e2
            split at h
            · rename_i a b _ _ _
              obtain ⟨ta, h1, rfl⟩ := Option.map_eq_some_iff.mp h
              obtain ⟨q1, q2, _⟩ := cA_ok hf h1
              have q3 : noStar a = true ∧ noStar b = true := by simpa using q2
              rw [← O.K]
              exact pis_one (pi_zip hg hm q1 (by rw [star_cons q3.1]) (by rw [star_cons q3.2]; rfl))
            · cases h
          · rw [if_neg e2] at h
            cases h
        · rw [if_neg e1] at h
          exact dflt h
  · exact dflt h
theorem orE_ok {e : Expr} : ∀ {ts : List TE}, (∀ t ∈ ts, PE X e t) → PE X e (orE ts)
  | [], _ => ⟨fun _ _ _ _ _ _ h => h.elim⟩
  | [a], h => h a (by simp)
  | a :: b :: r, h => peOr (h a (by simp)) (orE_ok fun t ht => h t (List.mem_cons_of_mem _ ht))
theorem orS_ok {st : Stmt} : ∀ {ts : List TS}, (∀ t ∈ ts, PS X st t) → PS X st (orS ts)
  | [], _ => ⟨fun _ _ _ _ _ _ h => h.elim⟩
  | [a], h => h a (by simp)
  | a :: b :: r, h => psOr (h a (by simp)) (orS_ok fun t ht => h t (List.mem_cons_of_mem _ ht))
theorem lcE_ok {e : Expr} {ws : List (Bool × TI)} {gt : TG} {tt : TT} {te : TE} {vs : List Nat} (h : ∀ w ∈ ws, PE X e (tLc w.2 gt tt te vs)) : PE X e (lcE ws gt tt te vs) := orE_ok fun t ht => by
  obtain ⟨w, hw, rfl⟩ := List.mem_map.mp ht
  rw [tLcU_eq]
  cases w.1 with
  | true => exact pe_lock (h w hw)
  | false => exact h w hw
theorem lcS_ok {st : Stmt} {ws : List (Bool × TI)} {gt : TG} {tt : TT} {te : TE} {vs : List Nat} {i : Nat} (h : ∀ w ∈ ws, PS X st (tAsg (tLc w.2 gt tt te vs) (gName i))) : PS X st (lcS ws gt tt te vs i) := orS_ok fun t ht => by
  obtain ⟨w, hw, rfl⟩ := List.mem_map.mp ht
  rw [tLcU_eq]
  cases w.1 with
  | true => exact ps_lock (h w hw)
  | false => exact h w hw
theorem forS_ok {st : Stmt} {ws : List (Bool × TI)} {gt : TG} {tb : TS} (h : ∀ w ∈ ws, PS X st (tFor w.2 gt tb)) : PS X st (forS ws gt tb) := orS_ok fun t ht => by
  obtain ⟨w, hw, rfl⟩ := List.mem_map.mp ht
  rw [tForU_eq]
  cases w.1 with
  | true => exact ps_lock (h w hw)
  | false => exact h w hw
theorem cP_ok {f : Expr → Option TE} (hf : ∀ e t, f e = some t → PE X e t) {pos : Pos} : ∀ {ks : List (Option Expr)} {vs : List Expr} {t : List (TE × TE)}, cP f ks vs = some t → PPs X pos ks vs t
  | [], [], t, h => by
    cases h
    exact pps_nil
  | some k :: ks, v :: vs, t, h => by
    obtain ⟨tk, h1, h2⟩ := Option.bind_eq_some_iff.mp h
    obtain ⟨tv, h3, h4⟩ := Option.bind_eq_some_iff.mp h2
    obtain ⟨r, h5, rfl⟩ := Option.map_eq_some_iff.mp h4
    exact pps_cons (hf _ _ h1) (hf _ _ h3) (cP_ok hf h5)
  | none :: _, _, _, h => by cases h
  | [], _ :: _, _, h => by cases h
  | some _ :: _, [], _, h => by cases h
theorem pw_of {op : BoolOp} {vs : List Expr} {p : Pos} {t : TT} (h : PT X (.BoolOp op vs p) t) : PW X (.BoolOp op vs p) t := ⟨fun whole pins s σ H Q I hw => h.run pins s σ H Q I hw⟩
theorem isN {op : CmpOp} {a b : Expr} {pos : Pos} {r : R2} {ta tb : TE} (O : OkE g S E X) (hr : rCmp g.K op = some r) (ha : PE X a ta) (hb : PE X b tb) (hs : noSet b = true) : PE X (.Compare a [op] [b] pos) (tOp r ta tb) := by
  rw [← O.K] at hr
  exact pe_cmpR (rCmp_ok O.un hr) ha hb (mark_no hs)
theorem sound (n : Nat) : (∀ (S : SC) (E : XK) (X : Cx), OkE g S E X → ∀ e t, cE g n S E e = some t → PE X e t) ∧ (∀ (S : SC) (E : XK) (X : Cx), OkE g S E X → ∀ e t, cT g n S E e = some t → PT X e t) := by
  induction n with
  | zero => exact ⟨fun S E X O e t h => (nomatch h), fun S E X O e t h => (nomatch h)⟩
  | succ n ih =>
    obtain ⟨ihE, ihT⟩ := ih
    refine ⟨fun S E X O e t h => ?_, fun S E X O e t h => ?_⟩
    · have f := fun e t h => ihE S E X O e t h
      have hu : X.A.units + 1 < cLine := by have := O.un; omega
      cases e with
      | Name x p => exact cName_ok O h
      | Constant c j p => exact cConst_ok h
      | BinOp a op b p =>
        obtain ⟨r, h1, h2⟩ := Option.bind_eq_some_iff.mp h
        obtain ⟨ta, h3, h4⟩ := Option.bind_eq_some_iff.mp h2
        obtain ⟨tb, h5, rfl⟩ := Option.map_eq_some_iff.mp h4
        rw [← O.K] at h1
        exact pe_op (rBin_ok h1) (f _ _ h3) (f _ _ h5)
      | UnaryOp op a p =>
        cases op <;> first | cases h | skip
        · obtain ⟨ta, h3, rfl⟩ := Option.map_eq_some_iff.mp h
          exact pe_notU (f _ _ h3)
        · obtain ⟨ta, h3, rfl⟩ := Option.map_eq_some_iff.mp h
          exact pe_un un_negU (f _ _ h3)
      | BoolOp op vs p =>
        cases vs with
        | nil => cases h
        | cons a r =>
          cases r with
          | nil => exact pe_one (f _ _ h)
          | cons b r =>
            obtain ⟨ta, h3, h4⟩ := Option.bind_eq_some_iff.mp h
            obtain ⟨tb, h5, rfl⟩ := Option.map_eq_some_iff.mp h4
            cases op with
            | And => exact pe_andU (f _ _ h3) (f _ _ h5)
            | Or => exact pe_orU (f _ _ h3) (f _ _ h5)
      | Compare a ops bs p =>
        rcases ops with _ | ⟨op, _ | ⟨op', _ | ⟨_, _⟩⟩⟩ <;> rcases bs with _ | ⟨b, _ | ⟨c, _ | ⟨_, _⟩⟩⟩ <;> first | cases h | skip
        · have h' : (if noSet b then (rCmp g.K op).bind fun r => (cE g n S E a).bind fun ta => (cE g n S E b).map fun tb => tOp r ta tb else none) = some t := h
          by_cases hs : noSet b = true
          · rw [if_pos hs] at h'
            obtain ⟨r, h1, h2⟩ := Option.bind_eq_some_iff.mp h'
            obtain ⟨ta, h3, h4⟩ := Option.bind_eq_some_iff.mp h2
            obtain ⟨tb, h5, rfl⟩ := Option.map_eq_some_iff.mp h4
            exact isN O h1 (f _ _ h3) (f _ _ h5) hs
          · rw [if_neg hs] at h'
            cases h'
        · have h' : (if noSet c then (rCmp g.K op).bind fun r => (rCmp g.K op').bind fun r' => (cE g n S E a).bind fun ta => (cE g n S E b).bind fun tb => (cE g n S E c).map fun tc => tChU r r' ta tb tc else none) = some t := h
          by_cases hs : noSet c = true
          · rw [if_pos hs] at h'
            obtain ⟨r, h1, h2⟩ := Option.bind_eq_some_iff.mp h'
            obtain ⟨r', h1', h2⟩ := Option.bind_eq_some_iff.mp h2
            obtain ⟨ta, h3, h4⟩ := Option.bind_eq_some_iff.mp h2
            obtain ⟨tb, h5, h6⟩ := Option.bind_eq_some_iff.mp h4
            obtain ⟨tc, h7, rfl⟩ := Option.map_eq_some_iff.mp h6
            rw [← O.K] at h1 h1'
            exact pe_chU (rCmp_ok O.un h1) (rCmp_ok O.un h1') (f _ _ h3) (f _ _ h5) (f _ _ h7) (mark_no hs)
          · rw [if_neg hs] at h'
            cases h'
      | Call fn es kw p =>
        cases kw with
        | cons _ _ => cases fn <;> cases h
        | nil =>
          cases fn <;> first | cases h | skip
          · rename_i o m ap
            have h' : (if noSup o && decide (es.length < 20) then (cE g n S E o).bind fun to => (cA (cE g n S E) es).bind fun ta => cCallM g E m es.isEmpty (ap.endLine == p.line) to ta else none) = some t := h
            by_cases hs : (noSup o && decide (es.length < 20)) = true
            · rw [if_pos hs] at h'
              obtain ⟨to, h1, h2⟩ := Option.bind_eq_some_iff.mp h'
              obtain ⟨ta, h3, h4⟩ := Option.bind_eq_some_iff.mp h2
              obtain ⟨s1, s2⟩ := Bool.and_eq_true_iff.mp hs
              obtain ⟨q1, q2, q3⟩ := cA_ok f h3
              exact cCallM_ok O (f _ _ h1) q2 q3 q1 s1 (of_decide_eq_true s2) h4
            · rw [if_neg hs] at h'
              cases h'
          · rename_i x xp
            obtain ⟨ta, h3, h4⟩ := Option.bind_eq_some_iff.mp h
            obtain ⟨q1, q2, q3⟩ := cA_ok f h3
            exact cCallN_ok O q2 q3 q1 h4
      | Attribute o a p =>
        have h' : (if noSup o then (cE g n S E o).map fun to => tFld g.K to a else none) = some t := h
        by_cases hs : noSup o = true
        · rw [if_pos hs] at h'
          obtain ⟨to, h1, rfl⟩ := Option.map_eq_some_iff.mp h'
          rw [← O.K]
          exact pe_fld (f _ _ h1) (base_no hs)
        · rw [if_neg hs] at h'
          cases h'
      | Subscript a b p =>
        have other : noSlice b = true → ((cE g n S E a).bind fun ta => (cE g n S E b).map fun tb => tOp (rIxU g.K) ta tb) = some t → PE X (.Subscript a b p) t := fun hb h => by
          obtain ⟨ta, h3, h4⟩ := Option.bind_eq_some_iff.mp h
          obtain ⟨tb, h5, rfl⟩ := Option.map_eq_some_iff.mp h4
          rw [← O.K]
          exact pe_ix (ix_u hu) (f _ _ h3) (f _ _ h5) (ix_no hb)
        cases b <;> first | exact other rfl h | skip
        rename_i lo hi st sp
        cases st with
        | some _ => cases h
        | none =>
          obtain ⟨ta, h3, h4⟩ := Option.bind_eq_some_iff.mp h
          obtain ⟨tl, h5, h6⟩ := Option.bind_eq_some_iff.mp h4
          obtain ⟨th, h7, rfl⟩ := Option.map_eq_some_iff.mp h6
          rw [← O.K]
          exact pe_slice sl_u (f _ _ h3) (cO_ok f h5) (cO_ok f h7)
      | List es p =>
        obtain ⟨ta, h3, rfl⟩ := Option.map_eq_some_iff.mp h
        exact pe_lst (cA_ok f h3).1
      | Tuple es k p =>
        obtain ⟨ta, h3, rfl⟩ := Option.map_eq_some_iff.mp h
        exact pe_tup (cA_ok f h3).1
      | Dict ks vs p =>
        cases ks with
        | cons k ks =>
          cases vs with
          | nil => cases h
          | cons v vs =>
            have h' : (if ((k :: ks).all (·.isSome) && decide ((k :: ks).length = (v :: vs).length) && decide ((k :: ks).length ≤ 15)) = true then (cP (cE g n S E) (k :: ks) (v :: vs)).map tDisp else none) = some t := h
            by_cases hs : ((k :: ks).all (·.isSome) && decide ((k :: ks).length = (v :: vs).length) && decide ((k :: ks).length ≤ 15)) = true
            · rw [if_pos hs] at h'
              obtain ⟨tr, h1, rfl⟩ := Option.map_eq_some_iff.mp h'
              obtain ⟨hs, s3⟩ := Bool.and_eq_true_iff.mp hs
              obtain ⟨s1, s2⟩ := Bool.and_eq_true_iff.mp hs
              exact pe_disp (cP_ok f h1) s1 (of_decide_eq_true s2) (fun z => by cases z) (of_decide_eq_true s3)
            · rw [if_neg hs] at h'
              cases h'
        | nil =>
          cases vs with
          | cons _ _ => cases h
          | nil =>
            cases h
            exact peOr pe_dnewK pe_dnewT
      | IfExp c a b p =>
        obtain ⟨tc, h1, h2⟩ := Option.bind_eq_some_iff.mp h
        obtain ⟨ta, h3, h4⟩ := Option.bind_eq_some_iff.mp h2
        obtain ⟨tb, h5, rfl⟩ := Option.map_eq_some_iff.mp h4
        exact pe_ifU (ihT S E X O _ _ h1) (f _ _ h3) (f _ _ h5)
      | ListComp elt gens scope p =>
        rcases gens with _ | ⟨⟨tg, iter, ifs, k⟩, _ | ⟨_, _⟩⟩ <;> first | cases h | skip
        have h' : (if (blkC g.N S.sc scope (ownOf g.N scope) && noSet iter && (k == 0)) = true then
          (cI g S (cE g n S E) tg iter).bind fun wi => (cTg g ⟨relS scope S.sc, owB scope⟩ tg).bind fun tt => (cF (cT g n ⟨relS scope S.sc, owB scope⟩ E0) ifs).bind fun tf =>
            (cE g n ⟨relS scope S.sc, owB scope⟩ E0 elt).map fun te => lcE wi tt tf te ((ownOf g.N scope).map (·.2))
          else none) = some t := h
        by_cases hs : (blkC g.N S.sc scope (ownOf g.N scope) && noSet iter && (k == 0)) = true
        · rw [if_pos hs] at h'
          obtain ⟨wi, h1, h2⟩ := Option.bind_eq_some_iff.mp h'
          obtain ⟨tt, h3, h4⟩ := Option.bind_eq_some_iff.mp h2
          obtain ⟨tf, h5, h6⟩ := Option.bind_eq_some_iff.mp h4
          obtain ⟨te, h7, rfl⟩ := Option.map_eq_some_iff.mp h6
          obtain ⟨hs, s3⟩ := Bool.and_eq_true_iff.mp hs
          obtain ⟨s1, s2⟩ := Bool.and_eq_true_iff.mp hs
          have k0 : k = 0 := by simpa using s3
          subst k0
          have bo : BlkOk X.N X.env.scope scope (ownOf g.N scope) := by
            rw [O.N, O.sc]
            exact blkOk_by s1
          refine lcE_ok fun w hw => pe_lc O.calm O.nd (cI_ok O f h1 w hw) bo (fun s H C cl fp => cTg_ok (O.blk s H scope bo.kind C cl fp) h3) (fun s H C cl fp => ?_) (fun s H C cl fp => ihE _ _ _ (O.blk s H scope bo.kind C cl fp) _ _ h7) (fold_no s2)
          rcases ifs with _ | ⟨c, _ | ⟨_, _⟩⟩
          · cases h5
            exact pts_nil
          · exact pts_one (ihT _ _ _ (O.blk s H scope bo.kind C cl fp) _ _ h5)
          · cases h5
        · rw [if_neg hs] at h'
          cases h'
      | _ => cases h
    · have f := fun e t h => ihE S E X O e t h
      have ft := fun e t h => ihT S E X O e t h
      have tru : ∀ (e : Expr), noBool e = true → (cE g n S E e).map (tTru g.K) = some t → PT X e t := fun e hn h => by
        obtain ⟨te, h3, rfl⟩ := Option.map_eq_some_iff.mp h
        rw [← O.K]
        exact pt_tru (f _ _ h3) (true_no hn)
      cases e with
      | UnaryOp op a p =>
        cases op <;> first | cases h | skip
        obtain ⟨ta, h3, rfl⟩ := Option.map_eq_some_iff.mp h
        exact pt_not (ft _ _ h3)
      | BoolOp op vs p =>
        cases vs with
        | nil => cases h
        | cons a r =>
          cases r with
          | nil =>
            cases op with
            | And => exact (pw_and1 (ft _ _ h)).pt
            | Or => exact (pw_or1 (ft _ _ h)).pt
          | cons b r =>
            obtain ⟨ta, h3, h4⟩ := Option.bind_eq_some_iff.mp h
            obtain ⟨tb, h5, rfl⟩ := Option.map_eq_some_iff.mp h4
            cases op with
            | And => exact (pw_andU (ft _ _ h3) (pw_of (ft _ _ h5))).pt
            | Or => exact (pw_orU (ft _ _ h3) (pw_of (ft _ _ h5))).pt
      | Compare a ops bs p =>
        rcases ops with _ | ⟨op, _ | ⟨op', _ | ⟨_, _⟩⟩⟩ <;> rcases bs with _ | ⟨b, _ | ⟨c, _ | ⟨_, _⟩⟩⟩ <;> first | cases h | skip
        · have h' : (if noSet b then (rCmp g.K op).bind fun r => (cE g n S E a).bind fun ta => (cE g n S E b).map fun tb => tBo (tOp r ta tb) else none) = some t := h
          by_cases hs : noSet b = true
          · rw [if_pos hs] at h'
            obtain ⟨r, h1, h2⟩ := Option.bind_eq_some_iff.mp h'
            obtain ⟨ta, h3, h4⟩ := Option.bind_eq_some_iff.mp h2
            obtain ⟨tb, h5, rfl⟩ := Option.map_eq_some_iff.mp h4
            rw [← O.K] at h1
            exact pt_cmpU (rCmp_ok O.un h1) (f _ _ h3) (f _ _ h5) (mark_no hs)
          · rw [if_neg hs] at h'
            cases h'
        · have h' : (if noSet c then (rCmp g.K op).bind fun r => (rCmp g.K op').bind fun r' => (cE g n S E a).bind fun ta => (cE g n S E b).bind fun tb => (cE g n S E c).map fun tc => tBo (tChU r r' ta tb tc) else none) = some t := h
          by_cases hs : noSet c = true
          · rw [if_pos hs] at h'
            obtain ⟨r, h1, h2⟩ := Option.bind_eq_some_iff.mp h'
            obtain ⟨r', h1', h2⟩ := Option.bind_eq_some_iff.mp h2
            obtain ⟨ta, h3, h4⟩ := Option.bind_eq_some_iff.mp h2
            obtain ⟨tb, h5, h6⟩ := Option.bind_eq_some_iff.mp h4
            obtain ⟨tc, h7, rfl⟩ := Option.map_eq_some_iff.mp h6
            rw [← O.K] at h1 h1'
            exact pt_chU (rCmp_ok O.un h1) (rCmp_ok O.un h1') (f _ _ h3) (f _ _ h5) (f _ _ h7) (mark_no hs)
          · rw [if_neg hs] at h'
            cases h'
      | IfExp c a b p => cases h
      | _ => exact tru _ rfl h
end
end Rf
namespace Rf
open PySem L2 PySem.Spec PyProof.Rows

/-! ### o[i] by values, for o[i] op= e -/
theorem get_list {X : Cx} : PGet X (rIxL X.K) := by
  intro pins s σ H o i ov iv Q I ro ri h
  obtain ⟨p, xs, k, z, rfl, rfl, hq, he, q⟩ := h
  cases ro
  obtain ⟨t, rfl⟩ := ri
  obtain ⟨its, r, pl, hz⟩ := I.list hq
  obtain ⟨j, h1, h2, h3, h4, h5⟩ := atI_get he
  obtain ⟨w, ew, rw'⟩ := r.get h2
  have hl := r.length
  have hn := line63
  have fin : EP X pins σ Q w s := ⟨z, H, I, rw', q⟩
  by_cases h0 : 0 ≤ k
  · have hj : k.toNat = j := by
      rw [seqIndex_of h0 h5] at h1
      exact Option.some.inj h1
    exact wpAny_getItem_list pl.isList h0 (by omega) (by rw [hj]; simpa using ew) fin
  · have hj : (k + (its.toArray.size : Int)).toNat = j := by
      rw [seqIndex_neg (by omega) h4] at h1
      rw [List.size_toArray, ← hl]
      exact Option.some.inj h1
    exact wpAny_getItem_list_neg pl.isList (by omega) (by rw [List.size_toArray] <;> omega) (by omega) (by rw [hj]; simpa using ew) fin
@[irreducible] def rGetU (K : PySem.W.Frag) : V → V → Hp → VK → Prop := fun x y H Q => rIxL K x y H Q ∨ rIxD x y H Q
theorem get_u {X : Cx} (hu : X.A.units + 1 < cLine) : PGet X (rGetU X.K) := by
  intro pins s σ H o i ov iv Q I ro ri h
  unfold rGetU at h
  rcases h with h | ⟨a, w', rfl, g, q⟩
  · exact get_list pins s σ H o i ov iv Q I ro ri h
  · cases ro
    exact d_getItem hu I g ri fun w2 s3 I3 rw' => ⟨w', H, I3, rw', q⟩

def swB (sc : Scope) (y : Str) (py : Pos) : Expr → Bool
  | .ListComp _ _ s p => (sc.names.lookup y == some .local) && (py.line == p.line) && !(s.names.any fun (n, k) => n == y && (k == .local || k == .cell))
  | _ => false
def noDS : Expr → Bool
  | .SetComp .. => false
  | .DictComp .. => false
  | _ => true
theorem swB_ok {e : Expr} {y : Str} {py : Pos} {l : Nat} {env : Env} (hk : env.scope.kind = .function) (h : noDS e = true) : swapsWith e (some (.Name y py)) l env = pure (swB env.scope y py e) := by
  have hb : env.blockKind = .function := by unfold Env.blockKind; rw [hk]; rfl
  cases e <;> first | rfl | cases h | skip
  unfold swapsWith
  simp only [hb]
  rfl
theorem sw_other {e t : Expr} {l : Nat} {env : Env} (h : noDS e = true) (ht : ∀ x p, t ≠ .Name x p) : swapsWith e (some t) l env = pure false := by
  cases e <;> first | rfl | cases h | skip
  cases t <;> first | rfl | exact absurd rfl (ht _ _)

/-! ### the compiler: statements -/
structure OkS (g : GT) (S : SC) (E : XK) (X : Cx) : Prop extends OkE g S E X where
  po : PassesOwn (model X.prog X.w) X.A X.env X.xe
def cSt (g : GT) (S : SC) (E : XK) (n : Nat) : Stmt → Option TS
  | .Return r _ => (match r with
    | none => some tRetN
    | some e => (cE g n S E e).map tRet)
  | .Expr e _ => if noComp e then (cE g n S E e).map tDrop else none
  | .Pass _ => some tNext
  | .Break _ => some tBreak
  | .Continue _ => some tCont
  | .Assign ts e pos => if noDS e then (match ts with
    | [.Name y py] => if S.ow y then (ixO g.N y).bind fun i => (match swB S.sc y py e, e with
      | true, .ListComp elt [⟨tg, iter, ifs, k⟩] scope _ =>
        (match n with
        | 0 => none
        | n + 1 => if blkC g.N S.sc scope (ownOf g.N scope) && noSet iter && (k == 0) then
          (cI g S (cE g n S E) tg iter).bind fun wi => (cTg g ⟨relS scope S.sc, owB scope⟩ tg).bind fun tt => (cF (cT g n ⟨relS scope S.sc, owB scope⟩ E0) ifs).bind fun tf =>
            (cE g n ⟨relS scope S.sc, owB scope⟩ E0 elt).map fun te => lcS wi tt tf te ((ownOf g.N scope).map (·.2)) i
          else none)
      | true, _ => none
      | false, e => (cE g n S E e).map fun te => tAsg te (gName i)) else none
    | [.Tuple es k p] => (match e with
      | .Tuple .. => none
      | e => (cTg g S (.Tuple es k p)).bind fun t => (cE g n S E e).map fun te => tAsg te t)
    | [.Subscript o i _] => if noSlice i then (cE g n S E o).bind fun to => (cE g n S E i).bind fun ti => (cE g n S E e).map fun te => tAsg te (gSub to ti rSetU) else none
    | [.Attribute o f _] => (cE g n S E o).bind fun to => (cE g n S E e).map fun te => sFld g.K to te f
    | _ => none) else none
  | .AugAssign tg op e _ => (match tg with
    | .Name y _ => if S.ow y then (ixO g.N y).bind fun i => (rAug g.K op).bind fun r => (cE g n S E e).map fun te => tAug i te r else none
    | .Subscript o i _ => if noSlice i then (rAug g.K op).bind fun r => (cE g n S E o).bind fun to => (cE g n S E i).bind fun ti => (cE g n S E e).map fun te => tAugS to ti te (rGetU g.K) r rSetU else none
    | _ => none)
  | _ => none
/-- the ways joined: R is what holds behind the first -/
def tCut (t u : TS) : TS := fun D σ H => ∃ R : L2.St → Hp → Prop, t { D with nx := R } σ H ∧ ∀ σ' H', R σ' H' → u D σ' H'
theorem pss_cut {X : Cx} {st : Stmt} {rest : List Stmt} {t u : TS} (h1 : PS X st t) (h2 : PSs X rest u) : PSs X (st :: rest) (tCut t u) := by
  refine ⟨fun pins s σ H D I h => ?_⟩
  obtain ⟨R, h, hR⟩ := h
  refine wpAny_execs_cons (thn (h1.run pins s σ H { D with nx := R } I h) fun f s1 q => ?_)
  cases f with
  | next =>
    obtain ⟨σ', H', I', q⟩ := q
    exact h2.run pins s1 σ' H' D I' (hR _ _ q)
  | ret v => exact q
  | brk => exact q
  | cont => exact q
def endsB : List Stmt → Bool
  | [] => false
  | [.Return ..] => true
  | [.Raise ..] => true
  | [.Break ..] => true
  | [.Continue ..] => true
  | _ :: r => endsB r
def cutB : Stmt → Bool
  | .If _ a b _ => !(endsB a && b.isEmpty)
  | _ => false
mutual
def cS (g : GT) : Nat → SC → XK → Stmt → Option TS
  | 0, _, _, _ => none
  | n + 1, S, E, st => match st with
    | .If c a b _ => (cT g n S E c).bind fun tc => (cSs g n S E a).bind fun ta => (cSs g n S E b).map fun tb => uIf tc ta tb
    | .While c b oe _ => (match oe with
      | [] => (cT g n S E c).bind fun tc => (cSs g n S E b).map fun tb => tWhile tc tb
      | _ => none)
    | .For tg it b oe _ => (match oe with
      | [] => if noSet it then (cI g S (cE g n S E) tg it).bind fun wi => (cTg g S tg).bind fun t => (cSs g n S E b).map fun tb => forS wi t tb else none
      | _ => none)
    | st => cSt g S E n st
def cSs (g : GT) : Nat → SC → XK → List Stmt → Option TS
  | 0, _, _, _ => none
  | n + 1, S, E, sts => match sts with
    | [] => some tNext
    | [a] => cS g n S E a
    | a :: b :: r => (cS g n S E a).bind fun ta => (cSs g n S E (b :: r)).map fun tb => if cutB a then tCut ta tb else tSeq ta tb
end
section
variable {g : GT} {S : SC} {E : XK} {X : Cx}
theorem cSt_ok (O : OkS g S E X) (n : Nat) (st : Stmt) {t : TS} (h : cSt g S E n st = some t) : PS X st t := by
  have f : ∀ e t, cE g n S E e = some t → PE X e t := fun e t h => (sound n).1 S E X O.toOkE e t h
  have hu : X.A.units + 1 < cLine := by have := O.un; omega
  cases st <;> first | cases h | skip
  case Return r p =>
    cases r with
    | none => cases h; exact ps_retN
    | some e =>
      obtain ⟨te, h1, rfl⟩ := Option.map_eq_some_iff.mp h
      exact ps_ret (f _ _ h1)
  case Assign ts e pos =>
    by_cases hd : noDS e = true
    case neg =>
      have h' : (if noDS e then _ else none) = some t := h
      rw [if_neg hd] at h'
      cases h'
    have h1 := h
    unfold cSt at h1
    dsimp only at h1
    rw [if_pos hd] at h1
    split at h1
    · rename_i y py
      by_cases hw : S.ow y = true
      case neg =>
        rw [if_neg hw] at h1
        cases h1
      rw [if_pos hw] at h1
      obtain ⟨i, hi, h2⟩ := Option.bind_eq_some_iff.mp h1
      have hN := ixO_ok hi
      rw [← O.N] at hN
      obtain ⟨l1, l2⟩ := O.ow y hw
      split at h2
      · rename_i elt tg iter ifs k scope sp hsw
        cases n with
        | zero => cases h2
        | succ n =>
          have h' : (if (blkC g.N S.sc scope (ownOf g.N scope) && noSet iter && (k == 0)) = true then
            (cI g S (cE g n S E) tg iter).bind fun wi => (cTg g ⟨relS scope S.sc, owB scope⟩ tg).bind fun tt => (cF (cT g n ⟨relS scope S.sc, owB scope⟩ E0) ifs).bind fun tf =>
              (cE g n ⟨relS scope S.sc, owB scope⟩ E0 elt).map fun te => lcS wi tt tf te ((ownOf g.N scope).map (·.2)) i
            else none) = some t := h2
          by_cases hs : (blkC g.N S.sc scope (ownOf g.N scope) && noSet iter && (k == 0)) = true
          · rw [if_pos hs] at h'
            clear h1 h
            obtain ⟨wi, h1, h2⟩ := Option.bind_eq_some_iff.mp h'
            obtain ⟨tt, h3, h4⟩ := Option.bind_eq_some_iff.mp h2
            obtain ⟨tf, h5, h6⟩ := Option.bind_eq_some_iff.mp h4
            obtain ⟨te, h7, rfl⟩ := Option.map_eq_some_iff.mp h6
            obtain ⟨hs, s3⟩ := Bool.and_eq_true_iff.mp hs
            obtain ⟨s1, s2⟩ := Bool.and_eq_true_iff.mp hs
            have k0 : k = 0 := by simpa using s3
            subst k0
            have bo : BlkOk X.N X.env.scope scope (ownOf g.N scope) := by
              rw [O.N, O.sc]
              exact blkOk_by s1
            have hl : X.env.scope.names.lookup y = some .local := by
              have z := hsw
              unfold swB at z
              rw [O.sc]
              obtain ⟨z, _⟩ := Bool.and_eq_true_iff.mp z
              obtain ⟨z, _⟩ := Bool.and_eq_true_iff.mp z
              exact of_decide_eq_true (by simpa using z)
            have f := fun e t h => (sound n).1 S E X O.toOkE e t h
            refine lcS_ok fun w hw => ps_setLc O.calm O.nd hN hl (by rw [swB_ok O.kd hd, O.sc, hsw]) (cI_ok O.toOkE f h1 w hw) bo (fun s H C cl fp => cTg_ok (O.blk s H scope bo.kind C cl fp) h3) (fun s H C cl fp => ?_)
              (fun s H C cl fp => (sound n).1 _ _ _ (O.blk s H scope bo.kind C cl fp) _ _ h7) (fold_no s2)
            rcases ifs with _ | ⟨c, _ | ⟨_, _⟩⟩
            · cases h5
              exact pts_nil
            · exact pts_one ((sound n).2 _ _ _ (O.blk s H scope bo.kind C cl fp) _ _ h5)
            · cases h5
          · rw [if_neg hs] at h'
            cases h'
      · cases h2
      · rename_i hsw
        obtain ⟨te, h3, rfl⟩ := Option.map_eq_some_iff.mp h2
        exact ps_set O.nd hN l1 (f _ _ h3) (by rw [swB_ok O.kd hd, O.sc, hsw]) l2
    · rename_i es k p
      have go : (∀ a b c, e ≠ .Tuple a b c) → ((cTg g S (.Tuple es k p)).bind fun t => (cE g n S E e).map fun te => tAsg te t) = some t → PS X (.Assign [.Tuple es k p] e pos) t := fun ne h => by
        obtain ⟨tt, h3, h4⟩ := Option.bind_eq_some_iff.mp h
        obtain ⟨te, h5, rfl⟩ := Option.map_eq_some_iff.mp h4
        refine ps_asg (f _ _ h5) (cTg_ok O.toOkE h3) (show swapsWith e (some (.Tuple es k p)) pos.line X.env = pure false from sw_other hd (fun x p z => by cases z)) ?_ rfl
        cases e <;> first | rfl | exact absurd rfl (ne _ _ _)
      split at h1
      · cases h1
      · rename_i _ ne
        exact go (fun a b c z => ne a b c z) h1
    · rename_i o i p
      by_cases hs : noSlice i = true
      case neg =>
        rw [if_neg hs] at h1
        cases h1
      rw [if_pos hs] at h1
      obtain ⟨to, h3, h4⟩ := Option.bind_eq_some_iff.mp h1
      obtain ⟨ti, h5, h6⟩ := Option.bind_eq_some_iff.mp h4
      obtain ⟨te, h7, rfl⟩ := Option.map_eq_some_iff.mp h6
      refine ps_asg (f _ _ h7) (pg_sub (f _ _ h3) (f _ _ h5) (set_u hu) (fun v => ?_)) (show swapsWith e (some (.Subscript o i p)) pos.line X.env = pure false from sw_other hd (fun x p z => by cases z)) rfl rfl
      cases i <;> first | rfl | cases hs
    · rename_i o a p
      obtain ⟨to, h3, h4⟩ := Option.bind_eq_some_iff.mp h1
      obtain ⟨te, h5, rfl⟩ := Option.map_eq_some_iff.mp h4
      rw [← O.K]
      exact ps_fld (f _ _ h3) (f _ _ h5) (sw_other hd (fun x p z => nomatch z))
    · cases h1
  case AugAssign tg op e pos =>
    cases tg <;> first | cases h | skip
    · rename_i o i p
      have h' : (if noSlice i then (rAug g.K op).bind fun r => (cE g n S E o).bind fun to => (cE g n S E i).bind fun ti => (cE g n S E e).map fun te => tAugS to ti te (rGetU g.K) r rSetU else none) = some t := h
      by_cases hs : noSlice i = true
      case neg =>
        rw [if_neg hs] at h'
        cases h'
      rw [if_pos hs] at h'
      obtain ⟨r, h1, h2⟩ := Option.bind_eq_some_iff.mp h'
      obtain ⟨to, h3, h4⟩ := Option.bind_eq_some_iff.mp h2
      obtain ⟨ti, h5, h6⟩ := Option.bind_eq_some_iff.mp h4
      obtain ⟨te, h7, rfl⟩ := Option.map_eq_some_iff.mp h6
      rw [← O.K] at h1 ⊢
      refine ps_augS (f _ _ h3) (f _ _ h5) (get_u hu) (f _ _ h7) (rAug_ok h1) (set_u hu) (fun ov iv new => ?_)
      cases i <;> first | rfl | cases hs
    · rename_i y p
      have h' : (if S.ow y then (ixO g.N y).bind fun i => (rAug g.K op).bind fun r => (cE g n S E e).map fun te => tAug i te r else none) = some t := h
      by_cases hw : S.ow y = true
      case neg =>
        rw [if_neg hw] at h'
        cases h'
      rw [if_pos hw] at h'
      obtain ⟨i, hi, h2⟩ := Option.bind_eq_some_iff.mp h'
      obtain ⟨r, h3, h4⟩ := Option.bind_eq_some_iff.mp h2
      obtain ⟨te, h5, rfl⟩ := Option.map_eq_some_iff.mp h4
      have hN := ixO_ok hi
      rw [← O.N] at hN
      obtain ⟨l1, l2⟩ := O.ow y hw
      rw [← O.K] at h3
      exact ps_aug O.nd hN l1 (f _ _ h5) (rAug_ok h3) l2
  case Expr e p =>
    have h' : (if noComp e then (cE g n S E e).map tDrop else none) = some t := h
    by_cases hs : noComp e = true
    · rw [if_pos hs] at h'
      obtain ⟨te, h3, rfl⟩ := Option.map_eq_some_iff.mp h'
      exact ps_expr (f _ _ h3) (swaps_no hs)
    · rw [if_neg hs] at h'
      cases h'
  case Pass p => exact ps_pass
  case Break p => exact ps_break
  case Continue p => exact ps_continue
theorem soundS (n : Nat) : (∀ st t, OkS g S E X → cS g n S E st = some t → PS X st t) ∧ (∀ sts t, OkS g S E X → cSs g n S E sts = some t → PSs X sts t) := by
  induction n with
  | zero => exact ⟨fun st t O h => (nomatch h), fun st t O h => (nomatch h)⟩
  | succ n ih =>
    obtain ⟨ihS, ihB⟩ := ih
    refine ⟨fun st t O h => ?_, fun sts t O h => ?_⟩
    · have f : ∀ e t, cE g n S E e = some t → PE X e t := fun e t h => (sound n).1 S E X O.toOkE e t h
      have ft : ∀ e t, cT g n S E e = some t → PT X e t := fun e t h => (sound n).2 S E X O.toOkE e t h
      cases st <;> first | exact cSt_ok O n _ h | skip
      case If c a b p =>
        obtain ⟨tc, h1, h2⟩ := Option.bind_eq_some_iff.mp h
        obtain ⟨ta, h3, h4⟩ := Option.bind_eq_some_iff.mp h2
        obtain ⟨tb, h5, rfl⟩ := Option.map_eq_some_iff.mp h4
        exact ps_ifU (ft _ _ h1) (ihB _ _ O h3) (ihB _ _ O h5)
      case While c b oe p =>
        cases oe with
        | cons _ _ => cases h
        | nil =>
          obtain ⟨tc, h1, h2⟩ := Option.bind_eq_some_iff.mp h
          obtain ⟨tb, h5, rfl⟩ := Option.map_eq_some_iff.mp h2
          exact ps_while O.po (ft _ _ h1) (ihB _ _ O h5)
      case For tg it b oe p =>
        cases oe with
        | cons _ _ => cases h
        | nil =>
          have h' : (if noSet it then (cI g S (cE g n S E) tg it).bind fun wi => (cTg g S tg).bind fun t => (cSs g n S E b).map fun tb => forS wi t tb else none) = some t := h
          by_cases hs : noSet it = true
          · rw [if_pos hs] at h'
            obtain ⟨wi, h1, h2⟩ := Option.bind_eq_some_iff.mp h'
            obtain ⟨tt, h3, h4⟩ := Option.bind_eq_some_iff.mp h2
            obtain ⟨tb, h5, rfl⟩ := Option.map_eq_some_iff.mp h4
            exact forS_ok fun w hw => ps_for O.po O.calm (cI_ok O.toOkE f h1 w hw) (cTg_ok O.toOkE h3) (ihB _ _ O h5) (fold_no hs)
          · rw [if_neg hs] at h'
            cases h'
    · rcases sts with _ | ⟨a, _ | ⟨b, r⟩⟩
      · cases h
        exact pss_nil
      · exact pss_one (ihS _ _ O h)
      · obtain ⟨ta, h1, h2⟩ := Option.bind_eq_some_iff.mp h
        obtain ⟨tb, h3, rfl⟩ := Option.map_eq_some_iff.mp h2
        by_cases hc : cutB a = true
        · rw [if_pos hc]
          exact pss_cut (ihS _ _ O h1) (ihB _ _ O h3)
        · rw [if_neg hc]
          exact pss_cons (ihS _ _ O h1) (ihB _ _ O h3)
end
end Rf
namespace Rf
open PySem L2 PySem.Spec PyProof.Rows

def scopeB (N P : List Str) (sc : Scope) : Bool := (match sc.kind with | .function => true | _ => false) && !sc.isCoroutine && !sc.isGenerator && decide N.Nodup && decide (N.take P.length = P) &&
  P.all (fun x => owB sc x) && sc.names.all (fun y => match y.2 with | .free => false | _ => true)
theorem scopeB_ok {N P : List Str} {sc : Scope} (h : scopeB N P sc = true) : FnScope N P sc := by
  unfold scopeB at h
  simp only [Bool.and_eq_true] at h
  obtain ⟨⟨⟨⟨⟨⟨h1, h2⟩, h3⟩, h4⟩, h5⟩, h6⟩, h7⟩ := h
  refine ⟨?_, by simpa using h2, by simpa using h3, of_decide_eq_true h4, of_decide_eq_true h5, fun x hx => ?_, fun y hy e => ?_⟩
  · split at h1
    · assumption
    · cases h1
  · exact owB_cases (List.all_eq_true.mp h6 x hx)
  · have q := List.all_eq_true.mp h7 y hy
    rw [e] at q
    cases q

section
variable (P : Program) (w : World) (K : PySem.W.Frag) (mg : Str → Option Value) (base : Heap)
/-- a def of the program's own, as its callers have it -/
def FnC (x : Str) (k : Nat) (sp : Sp) (dvs : List V) : Prop := ∃ f fd ps ds, FnOk P w K mg base (L2.CX P w) k f fd ps sp ∧ L2.Binds K fd ps ds ∧ Vals dvs ds ∧ mg x = some (.ref f) ∧ PySem.W.keepIn K (.ref f) = true
def ClC (x : Str) (C : Addr) (k : Nat) (sp : Sp) (dvs : List V) : Prop := ∃ f fd ps ds, FnOk P w K mg base (L2.CX P w) k f fd ps sp ∧ L2.Binds K fd ps ds ∧ Vals dvs ds ∧ mg x = some (.ref C) ∧ Mk K C f
def MeC (m : Str) (C : Addr) (k : Nat) (sp : Sp) (dvs : List V) : Prop := ∃ f fd ps ds, FnOk P w K mg base (L2.CX P w) k f fd ps sp ∧ L2.Binds K fd ps ds ∧ Vals dvs ds ∧ Cls K C ∧ Meth K C m f
def EntG (k : Nat) (x : Str) : GK → Prop
  | .fn sp dvs => ∃ j, j ≤ k ∧ FnC P w K mg base x j sp dvs
  | .cls C sp dvs => ∃ j, j + 1 ≤ k ∧ ClC P w K mg base x C j sp dvs
  | .con v => ∃ u, mg x = some u ∧ RelV v u
  | .bl => mg x = none
def EntM (k : Nat) (m : Str) (C : Addr) (sp : Sp) (dvs : List V) : Prop := ∃ j, j ≤ k ∧ MeC P w K mg base m C j sp dvs
def AllG (k : Nat) : List (Str × GK) → Prop
  | [] => True
  | p :: r => EntG P w K mg base k p.1 p.2 ∧ AllG k r
def AllM (k : Nat) : List (Str × Addr × Sp × List V) → Prop
  | [] => True
  | p :: r => EntM P w K mg base k p.1 p.2.1 p.2.2.1 p.2.2.2 ∧ AllM k r
end
section
variable {P : Program} {w : World} {K : PySem.W.Frag} {mg : Str → Option Value} {base : Heap} {k : Nat}
theorem AllG.at_ : ∀ {l : List (Str × GK)} {x : Str} {e : GK}, AllG P w K mg base k l → l.lookup x = some e → EntG P w K mg base k x e
  | [], _, _, _, h => by cases h
  | (y, v) :: r, x, e, a, h => by
    rw [List.lookup_cons] at h
    cases q : x == y with
    | true =>
      rw [q] at h
      cases h
      have e1 := eq_of_beq q
      subst e1
      exact a.1
    | false =>
      rw [q] at h
      exact AllG.at_ a.2 h
theorem AllM.at_ : ∀ {l : List (Str × Addr × Sp × List V)} {m : Str} {C : Addr} {sp : Sp} {dvs : List V}, AllM P w K mg base k l → l.lookup m = some (C, sp, dvs) → EntM P w K mg base k m C sp dvs
  | [], _, _, _, _, _, h => by cases h
  | (y, v) :: r, m, C, sp, dvs, a, h => by
    rw [List.lookup_cons] at h
    cases q : m == y with
    | true =>
      rw [q] at h
      cases h
      have e1 := eq_of_beq q
      subst e1
      exact a.1
    | false =>
      rw [q] at h
      exact AllM.at_ a.2 h
/-- the context of a def's body -/
theorem okS_of {N ps : List Str} {qual : Str} {scope : Scope} {f : Addr} {cd : Value} {A : Around} {outer : List Env} {s : Shared} {H : Hp} {E : XK} {G : List (Str × GK)} {M : List (Str × Addr × Sp × List V)} (S : FnScope N ps scope)
    (hr : Room k (A.deeper (envOfC qual scope s.heap.objs.size f cd))) (aG : AllG P w K mg base k G) (aM : AllM P w K mg base k M) :
    OkS ⟨K, N, G, M⟩ ⟨scope, owB scope⟩ E (cxOf (L2.CX P w) P w K mg base N qual scope f cd A outer s H E) where
  K := rfl
  N := rfl
  nd := S.nd
  sc := rfl
  ow := fun x h => ⟨owB_cases h, .inl rfl⟩
  kd := S.kind
  calm := rfl
  un := by
    have := hr.un
    show (A.deeper (envOfC qual scope s.heap.objs.size f cd)).units + 100 < cLine
    omega
  ps := passes_call (takes_of rfl rfl rfl rfl) fun _ _ _ _ h => h
  fn := fun x sp dvs h => by
    obtain ⟨j, hj, f, fd, ps, ds, F, b, d, hm, kp⟩ := aG.at_ h
    exact ⟨f, j, ⟨fd, ps, ds, F, b, d⟩, hr.mono hj, hm, kp⟩
  cls := fun x C sp dvs h => by
    obtain ⟨j, hj, f, fd, ps, ds, F, b, d, hm, mk⟩ := aG.at_ h
    exact ⟨f, j, ⟨fd, ps, ds, F, b, d⟩, hr.mono hj, hm, mk⟩
  con := fun x v h => aG.at_ h
  bl := fun x h => aG.at_ h
  me := fun m C sp dvs h => by
    obtain ⟨j, hj, f, fd, ps, ds, F, b, d, c, me⟩ := aM.at_ h
    exact ⟨f, j, ⟨fd, ps, ds, F, b, d⟩, hr.mono hj, c, me⟩
  po := passes_of rfl
/-- THE RULE for a def: its reading by the compiler, its promise by that reading -/
theorem def_ok {x qual : Str} {pa : Arguments} {bd : List Stmt} {sc : Scope} {dvs : List V} {kws : List (Str × V)} {f : Addr} {fd : FuncData} {N ps : List Str} {sp : Sp} {G : List (Str × GK)} {M : List (Str × Addr × Sp × List V)} {t : XK → TS}
    (F : FunD K x qual pa bd sc dvs kws f fd) (hS : scopeB N ps sc = true) (n : Nat) (len : ∀ vs H Q E, sp vs H Q E → vs.length = ps.length)
    (hc : ∀ E, cSs ⟨K, N, G, M⟩ n ⟨sc, owB sc⟩ E bd = some (t E))
    (pure : ∀ vs H Q E, sp vs H Q E → t E { nx := fun _ H' => Q .non H', rt := Q } (start N vs) H) (aG : AllG P w K mg base k G) (aM : AllM P w K mg base k M) : FnOk P w K mg base (L2.CX P w) (k + 1) f fd ps sp :=
  F.ok (scopeB_ok hS) len fun cdv A outer s H vs Q E hr h => ⟨t E, (soundS n).2 _ _ (okS_of (scopeB_ok hS) hr aG aM) (hc E), pure vs H Q E h⟩
/-- .. as callers have it -/
theorem def_fn {x : Str} {pa : Arguments} {bd : List Stmt} {sc : Scope} {N ps : List Str} {sp : Sp} {G : List (Str × GK)} {M : List (Str × Addr × Sp × List V)} {t : XK → TS}
    (F : ∃ fd, FunD K x x pa bd sc [] [] (He.ga K x) fd) (hm : mg x = some (.ref (He.ga K x))) (hS : scopeB N ps sc = true) (n : Nat) (len : ∀ vs H Q E, sp vs H Q E → vs.length = ps.length)
    (hc : ∀ E, cSs ⟨K, N, G, M⟩ n ⟨sc, owB sc⟩ E bd = some (t E))
    (pure : ∀ vs H Q E, sp vs H Q E → t E { nx := fun _ H' => Q .non H', rt := Q } (start N vs) H) (aG : AllG P w K mg base k G) (aM : AllM P w K mg base k M)
    (hb : ∀ (kV doc pm : Value) (an : Option Addr) (cdv ct : Value) (us : List Value), us.length = ps.length → bindArgs (PySem.W.fnOf x x pa bd sc .none kV doc pm an cdv ct) ⟨us, []⟩ = Pure.pure (ps.zip us)) : FnC P w K mg base x (k + 1) sp [] := by
  obtain ⟨fd, F⟩ := F
  exact ⟨_, fd, ps, [], def_ok F hS n len hc pure aG aM, F.bindsN hb, .nil, hm, F.kp⟩
end
/-- a law's end: what may be let out hangs on the world -/
theorem walk_ofW {l : PySem.W.OpenLaw} {n k : Nat} {q : Program} {loose : List Str} {XP : (Str → Option Value) → Heap → Prop} {YP : World → Heap → Prop} {d : DefRec} {x : Str}
    (hn : l.most = some n) (hn2 : n ≤ sizeLine) (hdf : d.params.defaults = []) (hr : Room k callerA)
    (F : ∀ (w : World) (mg : Str → Option Value) (fa : Addr) (h : Heap), YP w h → h.Ns mainGlobals mg → mg d.name = some (.ref fa) →
      ∃ (K : PySem.W.Frag) (fd : FuncData) (sp : Sp), K.In h ∧ (∀ (s : Shared) (u : Value), BindsTo s fd ⟨[u], []⟩ [(x, u)]) ∧
        (∀ (H : Hp) (a : Addr) (ns : List Int), ns.length ≤ n → Only H → SqL K H a (ns.map V.int) → sp [.ref a] H (fun v _ => v = .bl true) fun _ _ _ => False) ∧
        ∀ base : Heap, K.In base → base.Ns mainGlobals mg → FnOk l.prog w K mg base (L2.CX l.prog w) k fa fd [x] sp) :
    PySem.W.WalkO q loose XP YP l.row.toRowW d [] (fun f vs => PySem.call f vs) := by
  refine Att.attach_call hn hdf fun w s₀ s₁ mg mb fa o pm cd doc a vs ns G Y ho hd hcd hmg hobj hints hlen hg => ?_
  obtain ⟨K, fd, sp, KX, hb, hsp, hF⟩ := F w mg fa _ Y G.T.g hmg
  exact law_call KX G.T.g G.T.b G.T.builtins G.T.nolimit hg hobj hints (Nat.le_trans hlen hn2) hr hF hb (fun H hO hS => hsp H a ns hlen hO hS) fun H e s' z => by
    obtain ⟨_, _, _, _, _, _, _, _, _, _, _, _, z⟩ := z
    exact z.elim
end Rf
/-! Small rules for reading readings. -/
namespace Rf
open PySem L2 PySem.Spec PyProof.Rows
theorem cutW {t u : TS} {D : Ends} {σ : L2.St} {H : Hp} (R : L2.St → Prop) (h1 : t { D with nx := fun σ' H' => R σ' ∧ H' = H } σ H) (h2 : ∀ σ', R σ' → u D σ' H) : tCut t u D σ H :=
  ⟨fun σ' H' => R σ' ∧ H' = H, h1, fun σ' H' ⟨r, e⟩ => by rw [e]; exact h2 σ' r⟩
theorem cutH {t u : TS} {D : Ends} {σ : L2.St} {H : Hp} (R : L2.St → Hp → Prop) (h1 : t { D with nx := R } σ H) (h2 : ∀ σ' H', R σ' H' → u D σ' H') : tCut t u D σ H := ⟨R, h1, h2⟩
theorem cutN {t u : TS} {D : Ends} {σ : L2.St} {H : Hp} (h1 : t { D with nx := u D } σ H) : tCut t u D σ H := ⟨_, h1, fun _ _ h => h⟩
theorem mulL {i j : Int} (h : -(2 ^ 64) < i ∧ i < 2 ^ 64) : CMulU i j := .inl (.inl h)
theorem mulR {i j : Int} (h : -(2 ^ 64) < j ∧ j < 2 ^ 64) : CMulU i j := .inl (.inr h)
theorem divS {i j : Int} (h : 0 < j) (h2 : j < 2 ^ 62) : CDivW i j := wide_div (b := 62) h (by omega) (by decide) (by decide)
/-- an item of a list at a place within -/
theorem atI_in {α : Type} {xs : List α} {i : Int} (h0 : 0 ≤ i) (h1 : i < xs.length) : ∃ v, atI xs i = some v ∧ v ∈ xs := by
  obtain ⟨j, rfl⟩ : ∃ j : Nat, i = j := ⟨i.toNat, by omega⟩
  have hj : j < xs.length := by omega
  exact ⟨xs[j], atI_nat (by simp [hj]), List.getElem_mem hj⟩
/-- o[i] of a list that is read -/
theorem ixL {K : PySem.W.Frag} {p : Addr} {xs : List V} {i : Int} {v : V} {H : Hp} {Q : VK} (h : SqL K H p xs) (e : atI xs i = some v) (q : Q v H) : rIxU K (.ref p) (.int i) H Q := by
  unfold rIxU
  exact .inl (.inl ⟨p, xs, i, v, rfl, rfl, h, e, q⟩)
theorem ixLk {K : PySem.W.Frag} {p : Addr} {xs : List V} {i : Int} {v : V} {H : Hp} {Q : VK} (h : H p = some (.lst xs)) (e : atI xs i = some v) (q : Q v H) : rIxU K (.ref p) (.int i) H Q := ixL (SqL.of h) e q
/-- some item of a list that is read -/
theorem ixIn {K : PySem.W.Frag} {p : Addr} {xs : List V} {i : Int} {H : Hp} {Q : VK} (h : SqL K H p xs) (h0 : 0 ≤ i) (h1 : i < xs.length) (q : ∀ v, v ∈ xs → Q v H) : rIxU K (.ref p) (.int i) H Q := by
  obtain ⟨v, e, m⟩ := atI_in h0 h1
  exact ixL h e (q v m)
theorem setLk {p : Addr} {xs : List V} {i : Int} {j : Nat} {v : V} {H : Hp} {Q : Hp → Prop} (h : H p = some (.lst xs)) (e : ixN xs.length i = some j) (q : Q (upd H p (.lst (xs.set j v)))) : rSetU (.ref p) (.int i) v H Q := by
  unfold rSetU
  exact .inl ⟨p, xs, i, j, rfl, rfl, h, e, q⟩
/-- for over what is walked, over a range, over a list -/
theorem forIt {J : It} {n : Nat} {G : Hp → Prop} {Y : Nat → Hp → V → Hp → Prop} (w : Walk J n G Y) {g : TG} {tb : TS} {D : Ends} {σ : L2.St} {H : Hp} (Pv : Nat → L2.St → Hp → Prop) (h0 : Pv 0 σ H) (hG : ∀ i σ H, i ≤ n → Pv i σ H → G H)
    (hs : ∀ i x σ H H', i < n → Pv i σ H → Y i H x H' → g x σ H' fun σ2 H2 => tb { D with nx := Pv (i + 1), ct := Pv (i + 1), bk := D.nx } σ2 H2) (hd : ∀ σ H, Pv n σ H → D.nx σ H) : forU J g tb D σ H := by
  unfold forU
  exact for_it w Pv h0 hG hs hd
theorem forR {lo : Int} {n : Nat} {g : TG} {tb : TS} {D : Ends} {σ : L2.St} {H : Hp} (Pv : Nat → L2.St → Hp → Prop) (h0 : Pv 0 σ H)
    (hs : ∀ i σ H, i < n → Pv i σ H → g (.int (lo + i)) σ H fun σ2 H2 => tb { D with nx := Pv (i + 1), ct := Pv (i + 1), bk := D.nx } σ2 H2) (hd : ∀ σ H, Pv n σ H → D.nx σ H) : forU (Itr lo n) g tb D σ H := by
  unfold forU
  exact for_range Pv h0 hs hd
theorem forL {K : PySem.W.Frag} {a : Addr} {xs : List V} {g : TG} {tb : TS} {D : Ends} {σ : L2.St} {H : Hp} (_ : SqL K H a xs) (Pv : Nat → L2.St → Hp → Prop) (h0 : Pv 0 σ H) (hl : ∀ i σ H, i ≤ xs.length → Pv i σ H → SqL K H a xs)
    (hs : ∀ i x σ H, xs[i]? = some x → Pv i σ H → g x σ H fun σ2 H2 => tb { D with nx := Pv (i + 1), ct := Pv (i + 1), bk := D.nx } σ2 H2) (hd : ∀ σ H, Pv xs.length σ H → D.nx σ H) : forU (Itl K a) g tb D σ H := by
  unfold forU
  exact for_list Pv h0 hl hs hd
/-- a list gathered over what is walked -/
theorem lcIt {J : It} {n : Nat} {G : Hp → Prop} {Y : Nat → Hp → V → Hp → Prop} (w : Walk J n G Y) {g : TG} {tt : TT} {te : TE} {vs : List Nat} {σ : L2.St} {H1 : Hp} {Q : VK}
    (h : ∀ D, H1 D = none → ∃ Pv : Nat → Hp → Prop, Pv 0 (L2.upd H1 D (.lst [])) ∧ (∀ i H, i ≤ n → Pv i H → G H) ∧ (∀ i x H H', i < n → Pv i H → Y i H x H' → g x (wipe σ vs) H' fun σ2 H2 => wipe σ2 vs = wipe σ vs ∧ tt σ2 H2 fun b H3 =>
      cnd b (te σ2 H3 fun y H4 => ∃ acc, H4 D = some (.lst acc) ∧ acc.length < sizeLine ∧ Pv (i + 1) (L2.upd H4 D (.lst (acc ++ [y])))) (Pv (i + 1) H3)) ∧ ∀ H, Pv n H → Q (.ref D) H) : lcU J g tt te vs σ H1 Q := by
  unfold lcU
  intro D hD
  obtain ⟨Pv, h0, hG, hs, hd⟩ := h D hD
  simp only [cnd_if] at hs ⊢
  exact lc_it w Pv h0 hG hs hd
theorem _root_.L2.Same.upd {H0 H : Hp} {p : Addr} {o : HO} (s : Same H0 H) (h : H0 p = none) : Same H0 (L2.upd H p o) := fun b u e => by
  rw [upd_ne (ne_of_none e h)]
  exact s b u e
theorem _root_.L2.Same.new {H0 H : Hp} {p : Addr} {o : HO} (s : Same H0 H) (h : H p = none) : Same H0 (L2.upd H p o) := L2.Same.upd s (s.free h)
/-- the same, where what stands stays: what is gathered ahead of turn i is acc i -/
theorem lcAcc {J : It} {n : Nat} {G : Hp → Prop} {Y : Nat → Hp → V → Hp → Prop} (w : Walk J n G Y) {g : TG} {tt : TT} {te : TE} {vs : List Nat} {σ : L2.St} {H1 : Hp} {Q : VK} (acc : Nat → List V) (ha : acc 0 = []) (hl : ∀ i, i < n → (acc i).length < sizeLine) (hG : ∀ H, Same H1 H → G H)
    (hs : ∀ i x H H', i < n → Same H1 H → Y i H x H' → ∀ (R : VK) (R' : Hp → Prop), (∀ y H4, Same H H4 → acc (i + 1) = acc i ++ [y] → R y H4) → (∀ H4, Same H H4 → acc (i + 1) = acc i → R' H4) →
      g x (wipe σ vs) H' fun σ2 H2 => wipe σ2 vs = wipe σ vs ∧ tt σ2 H2 fun b H3 => cnd b (te σ2 H3 R) (R' H3))
    (hd : ∀ D H, H D = some (.lst (acc n)) → Same H1 H → Q (.ref D) H) : lcU J g tt te vs σ H1 Q := by
  refine lcIt w fun D hD => ⟨fun i H => Same H1 H ∧ H D = some (.lst (acc i)), ⟨Same.new (Same.refl _) hD, by rw [ha]; exact upd_same⟩, fun i H _ p => hG H p.1, fun i x H H' hi p y => ?_, fun H p => hd D H p.2 p.1⟩
  refine hs i x H H' hi p.1 y _ _ (fun z H4 s e => ⟨acc i, s _ _ p.2, hl i hi, Same.upd (fun b u k => s _ _ (p.1 b u k)) hD, ?_⟩) (fun H4 s e => ⟨fun b u k => s _ _ (p.1 b u k), ?_⟩)
  · rw [e]; exact upd_same
  · rw [e]; exact s _ _ p.2
/-- all but the object at p is as it was -/
def But (p : Addr) (H H' : Hp) : Prop := ∀ b, b ≠ p → H' b = H b
theorem But.upd {p : Addr} {o : HO} {H : Hp} : But p H (L2.upd H p o) := fun b h => upd_ne h
theorem But.refl {p : Addr} {H : Hp} : But p H H := fun _ _ => rfl
theorem But.trans {p : Addr} {H H1 H2 : Hp} (a : But p H H1) (b : But p H1 H2) : But p H H2 := fun c h => (b c h).trans (a c h)
theorem But.updT {p : Addr} {o : HO} {H H1 : Hp} (a : But p H H1) : But p H (L2.upd H1 p o) := a.trans But.upd
theorem _root_.L2.Same.but {H0 H1 H2 : Hp} {p : Addr} (s : Same H0 H1) (h : H0 p = none) (b : But p H1 H2) : Same H0 H2 := fun c o e => (b c (ne_of_none e h)).trans (s c o e)
theorem But.at {p q : Addr} {H H' : Hp} {o : HO} (b : But p H H') (h : H q = some o) (ne : q ≠ p) : H' q = some o := (b q ne).trans h
theorem But.none {p q : Addr} {H H' : Hp} {o : HO} (b : But p H H') (hp : H p = some o) (h : H' q = none) (hp' : H' p ≠ none) : H q = none := by
  by_cases e : q = p
  · rw [e] at h; exact absurd h hp'
  · rw [← b q e]; exact h
/-! ### a value's kind -/
theorem TyX.mono {K : PySem.W.Frag} {H H' : Hp} {v : V} {t : Value} (s : Same H H') (h : TyX K H v t) : TyX K H' v t := by
  cases h with
  | base b =>
    refine .base ?_
    cases b with
    | non => exact .non
    | bl x => exact .bl x
    | int i => exact .int i
    | str x => exact .str x
    | flt x => exact .flt x
    | lst e => exact .lst (s _ _ e)
    | frz e => exact .frz (s _ _ e)
    | tup e => exact .tup (s _ _ e)
    | dK e => exact .dK (s _ _ e)
    | dT e => exact .dT (s _ _ e)
    | ins e a b c d f => exact .ins (s _ _ e) a b c d f
  | byt b => exact .byt b
  | set e => exact .set (s _ _ e)
  | kList e c => exact .kList e c
  | kTuple e c => exact .kTuple e c
  | kDict e c => exact .kDict e c
  | fTuple e => exact .fTuple (s _ _ e)
  | fDict e => exact .fDict (s _ _ e)
def TyN (K : PySem.W.Frag) (H : Hp) (v : V) (t : String) : Prop := match v with
  | .int _ => t = "int"
  | .bl _ => t = "bool"
  | .str _ => t = "str"
  | .non => t = "NoneType"
  | .ref p => (t = "list" ∨ t = "tuple" ∨ t = "dict") ∧ TyX K H (.ref p) (.type t)
  | _ => False
theorem TyN.mono {K : PySem.W.Frag} {H H' : Hp} {v : V} {t : String} (s : Same H H') (h : TyN K H v t) : TyN K H' v t := by
  cases v <;> first | exact h | exact ⟨h.1, TyX.mono s h.2⟩
theorem TyN.lst {K : PySem.W.Frag} {H : Hp} {p : Addr} {xs : List V} (h : H p = some (.lst xs)) : TyN K H (.ref p) "list" := ⟨.inl rfl, .base (.lst h)⟩
theorem TyN.tup {K : PySem.W.Frag} {H : Hp} {p : Addr} {xs : List V} (h : H p = some (.tup xs)) : TyN K H (.ref p) "tuple" := ⟨.inr (.inl rfl), .base (.tup h)⟩
theorem TyN.dK {K : PySem.W.Frag} {H : Hp} {p : Addr} {xs : List (Key × V)} (h : H p = some (.dK xs)) : TyN K H (.ref p) "dict" := ⟨.inr (.inr rfl), .base (.dK h)⟩
theorem TyN.isL {K : PySem.W.Frag} {H : Hp} {v : V} {t : String} (h : TyN K H v t) : isL1.contains t = true := by
  cases v <;> first | exact False.elim h | skip
  · have e : t = "NoneType" := h; subst e; decide +kernel
  · have e : t = "bool" := h; subst e; decide +kernel
  · have e : t = "int" := h; subst e; decide +kernel
  · have e : t = "str" := h; subst e; decide +kernel
  · rcases h.1 with e | e | e <;> (subst e; decide +kernel)
theorem isiN {K : PySem.W.Frag} {H : Hp} {v : V} {t T : String} {b : Bool} {Q : VK} (h : TyN K H v t) (e : isO t T = some b) (q : Q (.bl b) H) : rIsiU K [v, .ty T] H Q := by
  unfold rIsiU
  cases v <;> first | exact False.elim h | skip
  · have e1 : t = "NoneType" := h; subst e1; exact ⟨b, e, q⟩
  · have e1 : t = "bool" := h; subst e1; exact ⟨b, e, q⟩
  · have e1 : t = "int" := h; subst e1; exact ⟨b, e, q⟩
  · have e1 : t = "str" := h; subst e1; exact ⟨b, e, q⟩
  · exact ⟨t, h.2, b, e, q⟩
/-- is it an int that is no truth, a text -/
theorem TyN.int_or {K : PySem.W.Frag} {H : Hp} {v : V} {t : String} (h : TyN K H v t) : (∃ i, v = .int i ∧ t = "int") ∨ ((∀ i, v ≠ .int i) ∧ ((isO t "int" = some false) ∨ (isO t "int" = some true ∧ isO t "bool" = some true))) := by
  cases v <;> first | exact False.elim h | skip
  · have e : t = "NoneType" := h; subst e; exact .inr ⟨fun i => by simp, .inl (by decide +kernel)⟩
  · have e : t = "bool" := h; subst e; exact .inr ⟨fun i => by simp, .inr ⟨by decide +kernel, by decide +kernel⟩⟩
  · have e : t = "int" := h; exact .inl ⟨_, rfl, e⟩
  · have e : t = "str" := h; subst e; exact .inr ⟨fun i => by simp, .inl (by decide +kernel)⟩
  · rcases h.1 with e | e | e <;> (subst e; exact .inr ⟨fun i => by simp, .inl (by decide +kernel)⟩)
theorem TyN.str_or {K : PySem.W.Frag} {H : Hp} {v : V} {t : String} (h : TyN K H v t) : (∃ z, v = .str z ∧ t = "str") ∨ ((∀ z, v ≠ .str z) ∧ isO t "str" = some false) := by
  cases v <;> first | exact False.elim h | skip
  · have e : t = "NoneType" := h; subst e; exact .inr ⟨fun i => by simp, by decide +kernel⟩
  · have e : t = "bool" := h; subst e; exact .inr ⟨fun i => by simp, by decide +kernel⟩
  · have e : t = "int" := h; subst e; exact .inr ⟨fun i => by simp, by decide +kernel⟩
  · have e : t = "str" := h; exact .inl ⟨_, rfl, e⟩
  · rcases h.1 with e | e | e <;> (subst e; exact .inr ⟨fun i => by simp, by decide +kernel⟩)
theorem lg {n k : Nat} {m : Nat} (h : n < 2 ^ k) (hk : k ≤ m) (h0 : 0 < m := by decide) : n.log2 < m := by
  by_cases e : n = 0
  · rw [e]; simpa using h0
  · exact Nat.lt_of_lt_of_le ((Nat.log2_lt e).2 h) hk
/-! ### texts -/
theorem len_app (a b : Str) : (a ++ b).length = a.length + b.length := by
  show (a.cps ++ b.cps).size = _
  rw [Array.size_append]
  rfl
theorem cps_app (a b : Str) : (a ++ b).cps.toList = a.cps.toList ++ b.cps.toList := by
  show (a.cps ++ b.cps).toList = _
  exact Array.toList_append
theorem len_cut (z : Str) (lo hi : Option Int) : (cutS z lo hi).length ≤ z.length := by
  unfold cutS
  show ((z.cps.toList.drop _).take _).toArray.size ≤ z.cps.size
  rw [List.size_toArray, List.length_take, List.length_drop, Array.length_toList]
  omega
theorem str_len (z : Str) : z.cps.toList.length = z.length := Array.length_toList
/-- an item of a text -/
theorem ixS {K : PySem.W.Frag} {z : Str} {i : Int} {c : Nat} {H : Hp} {Q : VK} (hl : z.length ≤ sizeLine) (e : atI z.cps.toList i = some c) (q : Q (.str ⟨#[c]⟩) H) : rIxU K (.str z) (.int i) H Q := by
  unfold rIxU
  exact .inl (.inr (.inr ⟨z, i, c, rfl, rfl, hl, e, q⟩))
theorem ixSIn {K : PySem.W.Frag} {z : Str} {i : Int} {H : Hp} {Q : VK} (hl : z.length ≤ sizeLine) (h0 : 0 ≤ i) (h1 : i < z.length) (q : ∀ c, c ∈ z.cps.toList → Q (.str ⟨#[c]⟩) H) : rIxU K (.str z) (.int i) H Q := by
  obtain ⟨v, e, m⟩ := atI_in (xs := z.cps.toList) h0 (by rw [str_len]; exact h1)
  exact ixS hl e (q v m)
theorem slS {K : PySem.W.Frag} {z : Str} {lo hi : Option Int} {H : Hp} {Q : VK} (hl : z.length ≤ sizeLine) (q : Q (.str (cutS z lo hi)) H) : rSlU K (.str z) lo hi H Q := by
  unfold rSlU
  exact .inr (.inl ⟨z, rfl, hl, q⟩)
/- one step of a reading; tests that are decided are passed -/
theorem sameOf {H H' : Hp} {l : Addr} {o : HO} (n : H l = none) (h : L2.upd H l o = H') : Same H H' := h ▸ Same.new (Same.refl _) n
theorem atOf {H H' : Hp} {l : Addr} {o : HO} (h : L2.upd H l o = H') : H' l = some o := h ▸ upd_same
theorem butOf {H H' : Hp} {l : Addr} {o : HO} (h : L2.upd H l o = H') : But l H H' := h ▸ But.upd
/- a new object, and what is kept; an object's change -/
theorem _root_.L2.Same.get {H H' : Hp} {a : Addr} {o : HO} (s : Same H H') (h : H a = some o) : H' a = some o := s _ _ h
/- what stood still stands -/
theorem some_ne {H : Hp} {a : Addr} {o : HO} (h : H a = some o) : H a ≠ none := by rw [h]; simp
theorem _root_.L2.Same.getN {H H' : Hp} {a : Addr} (s : Same H H') (h : H a ≠ none) : H' a ≠ none := by
  cases e : H a with
  | none => exact absurd e h
  | some o => rw [s _ _ e]; simp
theorem ne_n {H : Hp} {a b : Addr} (h : H a ≠ none) (n : H b = none) : a ≠ b := fun e => h (e ▸ n)
/- both ways of a test -/
/-- and-chains of truths -/
theorem onB_bl {b : Bool} {Q : Bool → Prop} (h : Q b) : onB (.bl b) Q := h
/-- a list gathered over a text, over a list -/
theorem lcStr {z : Str} (f : Nat → V) {g : TG} {te : TE} {vs : List Nat} {σ : L2.St} {H1 : Hp} {Q : VK} (hz : z.length ≤ 20000)
    (hs : ∀ c H, Same H1 H → ∀ R : VK, (∀ H4, Same H H4 → R (f c) H4) → g (.str ⟨#[c]⟩) (wipe σ vs) H fun σ2 H2 => wipe σ2 vs = wipe σ vs ∧ te σ2 H2 R)
    (hd : ∀ D H, H D = some (.lst (z.cps.toList.map f)) → Same H1 H → Q (.ref D) H) : lcU (Its z) g tYes te vs σ H1 Q := by
  have hn : z.cps.size ≤ 20000 := hz
  refine lcAcc walk_str (fun i => (z.cps.toList.take i).map f) rfl (fun i hi => ?_) (fun _ _ => trivial) (fun i x H H' hi s y R R' r r' => ?_) (fun D H hD s => hd D H ?_ s)
  · rw [sizeLine_eq, List.length_map, List.length_take]; omega
  · obtain ⟨rfl, c, hc, rfl⟩ := y
    have e : (z.cps.toList.take (i + 1)).map f = (z.cps.toList.take i).map f ++ [f c] := by
      rw [List.take_add_one, Array.getElem?_toList, hc, List.map_append]
      rfl
    have q := hs c H' s R fun H4 s4 => r _ _ s4 e
    have ee : (fun σ2 H2 => wipe σ2 vs = wipe σ vs ∧ te σ2 H2 R) = (fun σ2 H2 => wipe σ2 vs = wipe σ vs ∧ tYes σ2 H2 fun b H3 => cnd b (te σ2 H3 R) (R' H3)) := by
      funext σ2 H2
      show _ = (_ ∧ cnd true _ _)
      rw [cnd_t]
    rw [ee] at q
    exact q
  · have e : z.cps.toList.take z.cps.size = z.cps.toList := List.take_of_length_le (by simp)
    rw [e] at hD
    exact hD
theorem lcL {K : PySem.W.Frag} {a : Addr} {xs : List V} (f : V → Option V) {g : TG} {tt : TT} {te : TE} {vs : List Nat} {σ : L2.St} {H1 : Hp} {Q : VK} (hS : SqL K H1 a xs) (hn : xs.length ≤ sizeLine)
    (hs : ∀ x H, x ∈ xs → Same H1 H → ∀ (R : VK) (R' : Hp → Prop), (∀ y H4, Same H H4 → f x = some y → R y H4) → (∀ H4, Same H H4 → f x = none → R' H4) → g x (wipe σ vs) H fun σ2 H2 => wipe σ2 vs = wipe σ vs ∧ tt σ2 H2 fun b H3 => cnd b (te σ2 H3 R) (R' H3))
    (hd : ∀ D H, H D = some (.lst (xs.filterMap f)) → Same H1 H → Q (.ref D) H) : lcU (Itl K a) g tt te vs σ H1 Q := by
  refine lcAcc walk_list (fun i => (xs.take i).filterMap f) rfl (fun i hi => ?_) (fun H s => s.seq hS) (fun i x H H' hi s y R R' r r' => ?_) (fun D H hD s => hd D H ?_ s)
  · have := List.length_filterMap_le f (xs.take i)
    rw [List.length_take] at this
    omega
  · obtain ⟨rfl, hx⟩ := y
    have e : (xs.take (i + 1)).filterMap f = (xs.take i).filterMap f ++ [x].filterMap f := by
      rw [List.take_add_one, hx, List.filterMap_append]
      rfl
    refine hs x H' (List.mem_of_getElem? hx) s R R' (fun y H4 s4 k => r y H4 s4 ?_) (fun H4 s4 k => r' H4 s4 ?_)
    · rw [e]; simp [k]
    · rw [e]; simp [k]
  · rw [List.take_of_length_le (Nat.le_refl _)] at hD
    exact hD
/-- sum, all, any of a list that stands -/
theorem all_bl {l : List Nat} {f : Nat → Bool} : (l.map fun c => V.bl (f c)).all (fun v => v == .bl true) = l.all f := by
  induction l with
  | nil => rfl
  | cons a l ih => rw [List.map_cons, List.all_cons, List.all_cons, ih]; cases f a <;> rfl
end Rf
namespace Wk02
open PySem L2 PySem.Spec PyProof.Rows Rf
def P_l_pool (K : PySem.W.Frag) (a b : V) (H : Hp) (Q : VK) (E : XK) : Prop := ∃ (p : Addr) (ns : List Int) (k : Int), a = .ref p ∧ b = .int k ∧ 0 ≤ k ∧ k ≤ 100 ∧ SqL K H p (ns.map V.int) ∧
  ∀ (c x y : Int) (q : Addr) (H' : Hp), 0 ≤ c → H q = none → H' q = some (.lst [.int c, .int x, .int y]) → Same H H' → Q (.ref q) H'
/-- a pool of numbers stands at p -/
def Pool (H : Hp) (p : Addr) : Prop := ∃ c x y : Int, H p = some (.lst [.int c, .int x, .int y])
theorem Pool.same {H H' : Hp} {p : Addr} (h : Pool H p) (s : Same H H') : Pool H' p := let ⟨c, x, y, e⟩ := h; ⟨c, x, y, s _ _ e⟩
theorem Pool.new {H : Hp} {p l : Addr} {o : HO} (h : Pool H p) (n : H l = none) : Pool (upd H l o) p := h.same (Same.new (Same.refl _) n)
theorem Pool.ne {H : Hp} {p l : Addr} (h : Pool H p) (n : H l = none) : l ≠ p := let ⟨_, _, _, e⟩ := h; (ne_of_none e n).symm
/-- what is kept, but for the object at p -/
def Kp (p : Addr) (H H' : Hp) : Prop := ∀ H0, Same H0 H → H0 p = none → Same H0 H'
theorem Kp.refl {p : Addr} {H : Hp} : Kp p H H := fun _ s _ => s
theorem Kp.trans {p : Addr} {H H1 H2 : Hp} (a : Kp p H H1) (b : Kp p H1 H2) : Kp p H H2 := fun H0 s n => b H0 (a H0 s n) n
theorem Kp.but {p : Addr} {H H1 : Hp} (b : But p H H1) : Kp p H H1 := fun _ s n => s.but n b
theorem Kp.same {p : Addr} {H H1 : Hp} (b : Same H H1) : Kp p H H1 := fun _ s n => s.trans b
theorem Kp.at {p q : Addr} {H H1 : Hp} {o : HO} (k : Kp p H H1) (h : H q = some o) (ne : q ≠ p) : H1 q = some o := by
  refine k (fun b => if b = p then none else H b) (fun b u e => ?_) (by simp) q o (by simp [ne, h])
  by_cases z : b = p
  · simp [z] at e
  · simpa [z] using e
def P_l_take (K : PySem.W.Frag) (a b : V) (H : Hp) (Q : VK) (E : XK) : Prop := ∃ (p : Addr) (m : Int), a = .ref p ∧ b = .int m ∧ Pool H p ∧ 0 < m ∧ m < 2 ^ 60 ∧
  ∀ (r : Int) (H' : Hp), 0 ≤ r → r < m → Pool H' p → But p H H' → Q (.int r) H'
def P_l_figures (K : PySem.W.Frag) (a b : V) (H : Hp) (Q : VK) (E : XK) : Prop := ∃ (p : Addr) (m : Nat), a = .ref p ∧ b = .int m ∧ Pool H p ∧ m ≤ 100 ∧
  ∀ (n : Int) (H' : Hp), 0 ≤ n → n < 10 ^ m → Pool H' p → But p H H' → Q (.int n) H'
def P_l_number (K : PySem.W.Frag) (a : V) (H : Hp) (Q : VK) (E : XK) : Prop := ∃ p : Addr, a = .ref p ∧ Pool H p ∧
  ∀ (n : Int) (H' : Hp), n.natAbs < 10 ^ 29 → Pool H' p → Kp p H H' → Q (.int n) H'
/-! use: C_pool C_fig C_numb -/
/-- the figures of a text; is it a number, plainly written -/
def digL (l : List Nat) : Bool := l.all fun c => decide (48 ≤ c) && decide (c ≤ 57)
def figS (z : Str) : Str := if z.cps.toList.head? = some 45 then cutS z (some 1) none else z
def plainS (z : Str) : Bool := decide (1 ≤ (figS z).length) && decide ((figS z).length ≤ 30) && digL (figS z).cps.toList && (!decide ((figS z).cps.toList.head? = some 48) || decide (z = Str.ofString "0"))
def wholeS (z : Str) (lo hi : Int) : V := if plainS z = true then (match PySem.intText? z with
  | some n => if lo ≤ n ∧ n ≤ hi then .int n else .non
  | none => .non) else .non
def wholeIn (v : V) (lo hi : Int) : V := match v with
  | .str z => wholeS z lo hi
  | _ => .non
def P_is_plain (K : PySem.W.Frag) (a : V) (H : Hp) (Q : VK) (E : XK) : Prop := ∃ z, a = .str z ∧ z.length ≤ 20000 ∧ ∀ H', Same H H' → Q (.bl (plainS z)) H'
def P_whole_in (K : PySem.W.Frag) (a b c : V) (H : Hp) (Q : VK) (E : XK) : Prop := ∃ (t : String) (lo hi : Int), TyN K H a t ∧ b = .int lo ∧ c = .int hi ∧ (∀ z, a = .str z → z.length ≤ 20000) ∧ ∀ H', Same H H' → Q (wholeIn a lo hi) H'
def P_l_plain (K : PySem.W.Frag) (a : V) (H : Hp) (Q : VK) (E : XK) : Prop := ∃ z, a = .str z ∧ z.length ≤ 20000 ∧ ∀ H', Same H H' → Q (.bl (plainS z)) H'
def P_l_texts (K : PySem.W.Frag) (a b : V) (H : Hp) (Q : VK) (E : XK) : Prop := ∃ (p : Addr) (n : Int), a = .ref p ∧ b = .int n ∧ n.natAbs < 10 ^ 29 ∧ Pool H p ∧
  ∀ (zs : List Str) (q : Addr) (H' : Hp), zs.length ≤ 100 → (∀ z ∈ zs, z.length ≤ 20000) → H' q = some (.lst (zs.map V.str)) → Pool H' p → Kp p H H' → Q (.ref q) H'
def P_law (K : PySem.W.Frag) (a : V) (H : Hp) (Q : VK) (E : XK) : Prop := ∃ (p : Addr) (ns : List Int), a = .ref p ∧ SqL K H p (ns.map V.int) ∧ ns.length ≤ 63 ∧ ∀ H', Q (.bl true) H'

def sp_is_plain (K : PySem.W.Frag) : Sp := fun vs H Q E => match vs with
  | [a0] => P_is_plain K a0 H Q E
  | _ => False
def sp_whole_in (K : PySem.W.Frag) : Sp := fun vs H Q E => match vs with
  | [a0, a1, a2] => P_whole_in K a0 a1 a2 H Q E
  | _ => False
def sp_l_pool (K : PySem.W.Frag) : Sp := fun vs H Q E => match vs with
  | [a0, a1] => P_l_pool K a0 a1 H Q E
  | _ => False
def sp_l_take (K : PySem.W.Frag) : Sp := fun vs H Q E => match vs with
  | [a0, a1] => P_l_take K a0 a1 H Q E
  | _ => False
def sp_l_figures (K : PySem.W.Frag) : Sp := fun vs H Q E => match vs with
  | [a0, a1] => P_l_figures K a0 a1 H Q E
  | _ => False
def sp_l_number (K : PySem.W.Frag) : Sp := fun vs H Q E => match vs with
  | [a0] => P_l_number K a0 H Q E
  | _ => False
def sp_l_plain (K : PySem.W.Frag) : Sp := fun vs H Q E => match vs with
  | [a0] => P_l_plain K a0 H Q E
  | _ => False
def sp_l_texts (K : PySem.W.Frag) : Sp := fun vs H Q E => match vs with
  | [a0, a1] => P_l_texts K a0 a1 H Q E
  | _ => False
def sp_law (K : PySem.W.Frag) : Sp := fun vs H Q E => match vs with
  | [a0] => P_law K a0 H Q E
  | _ => False
/-! is_plain(text): 0 text, 1 figures, 2 sign -/
def t_is_plain (K : PySem.W.Frag) (E : XK) : TS :=
  (tSeq (tAsg (tV 0) (gName 1))
  (tCut (uIf (tBo (tOp (rEqU K) (tSl (rSlU K) (tV 0) tNoPart (tPart (tC (.int 1)))) (tC (.str "-")))) (tAsg (tSl (rSlU K) (tV 0) (tPart (tC (.int 1))) tNoPart) (gName 1)) tNext)
  (tSeq (uIf (uOr (tNot (tBo (tChU rLeU rLeU (tC (.int 1)) (tCB (rLenU K) (tCons (tV 1) tNil)) (tC (.int 30))))) (tNot (tTru K (tCB (rAll K) (tCons (lcE (seqOr K true (tV 1)) (gName 2) tYes (tOp (rInU K) (tV 2) (tC (.str "0123456789"))) [2]) tNil))))) (tRet (tC (.bl false))) tNext)
  (tRet (tOrU (tOp (rNeU K) (tOp (rIxU K) (tV 1) (tC (.int 0))) (tC (.str "0"))) (tOp (rEqU K) (tV 0) (tC (.str "0"))))))))
/-! whole_in(thing, low, high): 0 thing, 1 low, 2 high, 3 number -/
def t_whole_in (K : PySem.W.Frag) (E : XK) : TS :=
  (tSeq (uIf (uOr (tNot (tTru K (tCB (rIsiU K) (tCons (tV 0) (tCons (tC (.ty "str")) tNil))))) (tNot (tTru K (tCall (sp_is_plain K) [] E (tCons (tV 0) tNil))))) (tRet (tC .non)) tNext)
  (tSeq (tAsg (tCB rIntU (tCons (tV 0) tNil)) (gName 3))
  (tSeq (uIf (tBo (tChU rLeU rLeU (tV 1) (tV 3) (tV 2))) (tRet (tV 3)) tNext)
  (tRet (tC .non)))))
/-! _law_pool(_law_script, _law_k): 0 _law_script, 1 _law_k, 2 _law_cell, 3 _law_first -/
def t_l_pool (K : PySem.W.Frag) (E : XK) : TS :=
  (tSeq (tAsg (tC (.int 0)) (gName 2))
  (tCut (uIf (tBo (tOp rGtU (tCB (rLenU K) (tCons (tV 0) tNil)) (tC (.int 0)))) (tAsg (tCB rAbsU (tCons (tOp (rIxU K) (tV 0) (tOp rModU (tV 1) (tCB (rLenU K) (tCons (tV 0) tNil)))) tNil)) (gName 2)) tNext)
  (tSeq (tAsg (tOp rModU (tOp (rAddU K) (tOp (rAddU K) (tOp rMulU (tV 2) (tC (.int 7919))) (tOp rMulU (tV 1) (tC (.int 104729)))) (tC (.int 12345))) (tC (.int 2147483647))) (gName 3))
  (tSeq (tAsg (tOp rModU (tOp rMulU (tV 3) (tV 3)) (tC (.int 2147483647))) (gName 3))
  (tCut (uIf (uOr (tBo (tOp rGeU (tV 1) (tCB (rLenU K) (tCons (tV 0) tNil)))) (tBo (tOp rLtU (tV 2) (tOp rPowU (tC (.int 10)) (tC (.int 18)))))) (tAsg (tC (.int 0)) (gName 2)) tNext)
  (tRet (tLst (tCons (tV 2) (tCons (tV 3) (tCons (tOp rModU (tOp (rAddU K) (tOp rDivU (tV 3) (tC (.int 7))) (tOp rMulU (tC (.int 31)) (tV 1))) (tC (.int 2147483629))) tNil))))))))))
/-! _law_take(_law_pool_here, _law_m): 0 _law_pool_here, 1 _law_m, 2 _law_found -/
def t_l_take (K : PySem.W.Frag) (E : XK) : TS :=
  (tSeq (uIf (tBo (tOp rGtU (tOp (rIxU K) (tV 0) (tC (.int 0))) (tC (.int 0)))) (tSeq (tAsg (tOp rModU (tOp (rIxU K) (tV 0) (tC (.int 0))) (tV 1)) (gName 2))
  (tSeq (tAsg (tOp rDivU (tOp (rIxU K) (tV 0) (tC (.int 0))) (tV 1)) (gSub (tV 0) (tC (.int 0)) rSetU))
  (tRet (tV 2)))) tNext)
  (tSeq (tAsg (tOp rModU (tOp (rAddU K) (tOp rMulU (tOp (rIxU K) (tV 0) (tC (.int 1))) (tC (.int 48271))) (tC (.int 11))) (tC (.int 2147483647))) (gSub (tV 0) (tC (.int 1)) rSetU))
  (tSeq (tAsg (tOp rModU (tOp (rAddU K) (tOp (rAddU K) (tOp rMulU (tOp (rIxU K) (tV 0) (tC (.int 2))) (tC (.int 69621))) (tOp rDivU (tOp (rIxU K) (tV 0) (tC (.int 1))) (tC (.int 5)))) (tC (.int 7))) (tC (.int 2147483629))) (gSub (tV 0) (tC (.int 2)) rSetU))
  (tRet (tOp rModU (tOp (rAddU K) (tOp rDivU (tOp (rIxU K) (tV 0) (tC (.int 1))) (tC (.int 64))) (tOp rDivU (tOp (rIxU K) (tV 0) (tC (.int 2))) (tC (.int 32)))) (tV 1))))))
/-! _law_figures(_law_pool_here, _law_many): 0 _law_pool_here, 1 _law_many, 2 _law_number_here, 3 _law_k -/
def t_l_figures (K : PySem.W.Frag) (E : XK) : TS :=
  (tSeq (tAsg (tC (.int 0)) (gName 2))
  (tSeq (forS [(false, iRng1 (tCons (tV 1) tNil))] (gName 3) (tAsg (tOp (rAddU K) (tOp rMulU (tV 2) (tC (.int 10))) (tCall (sp_l_take K) [] E (tCons (tV 0) (tCons (tC (.int 10)) tNil)))) (gName 2)))
  (tRet (tV 2))))
/-! _law_number(_law_pool_here): 0 _law_pool_here, 1 _law_number_here -/
def t_l_number (K : PySem.W.Frag) (E : XK) : TS :=
  (tSeq (tAsg (tCall (sp_l_figures K) [] E (tCons (tV 0) (tCons (tOp (rIxU K) (tLst (tCons (tC (.int 1)) (tCons (tC (.int 1)) (tCons (tC (.int 2)) (tCons (tC (.int 3)) (tCons (tC (.int 9)) (tCons (tC (.int 29)) tNil))))))) (tCall (sp_l_take K) [] E (tCons (tV 0) (tCons (tC (.int 6)) tNil)))) tNil))) (gName 1))
  (tRet (tOp rMulU (tV 1) (tOp (rIxU K) (tLst (tCons (tC (.int 1)) (tCons (tC (.int 1)) (tCons (tUn rNegU (tC (.int 1))) tNil)))) (tCall (sp_l_take K) [] E (tCons (tV 0) (tCons (tC (.int 3)) tNil)))))))
/-! _law_plain(_law_text): 0 _law_text, 1 _law_figures_here, 2 _law_sign -/
def t_l_plain (K : PySem.W.Frag) (E : XK) : TS :=
  (tSeq (tAsg (tV 0) (gName 1))
  (tCut (uIf (uAnd (tBo (tOp (rNeU K) (tV 0) (tC (.str "")))) (tBo (tOp (rEqU K) (tOp (rIxU K) (tV 0) (tC (.int 0))) (tC (.str "-"))))) (tAsg (tSl (rSlU K) (tV 0) (tPart (tC (.int 1))) tNoPart) (gName 1)) tNext)
  (tSeq (uIf (uOr (tBo (tOp (rEqU K) (tV 1) (tC (.str "")))) (tBo (tOp rGtU (tCB (rLenU K) (tCons (tV 1) tNil)) (tC (.int 30))))) (tRet (tC (.bl false))) tNext)
  (tSeq (uIf (tNot (tTru K (tCB (rAll K) (tCons (lcE (seqOr K true (tV 1)) (gName 2) tYes (tChU rLeU rLeU (tC (.str "0")) (tV 2) (tC (.str "9"))) [2]) tNil)))) (tRet (tC (.bl false))) tNext)
  (tRet (tOrU (tOp (rEqU K) (tV 0) (tC (.str "0"))) (tOp (rNeU K) (tOp (rIxU K) (tV 1) (tC (.int 0))) (tC (.str "0")))))))))
/-! _law_texts(_law_pool_here, _law_number_here): 0 _law_pool_here, 1 _law_number_here, 2 _law_text, 3 _law_at, 4 _law_sign, 5 _law_texts_here -/
def t_l_texts (K : PySem.W.Frag) (E : XK) : TS :=
  (tSeq (tAsg (tCB rStrU (tCons (tV 1) tNil)) (gName 2))
  (tSeq (tAsg (tCall (sp_l_take K) [] E (tCons (tV 0) (tCons (tOp (rAddU K) (tCB (rLenU K) (tCons (tV 2) tNil)) (tC (.int 1))) tNil))) (gName 3))
  (tSeq (tAsg (tOp (rIxU K) (tC (.str "0123456789-+ .,_ex\n")) (tCall (sp_l_take K) [] E (tCons (tV 0) (tCons (tC (.int 19)) tNil)))) (gName 4))
  (tSeq (tAsg (tLst (tCons (tV 2) (tCons (tOp (rAddU K) (tC (.str "0")) (tV 2)) (tCons (tOp (rAddU K) (tC (.str "+")) (tV 2)) (tCons (tOp (rAddU K) (tC (.str "-")) (tV 2)) (tCons (tOp (rAddU K) (tC (.str " ")) (tV 2)) (tCons (tOp (rAddU K) (tV 2) (tC (.str " "))) (tCons (tOp (rAddU K) (tV 2) (tC (.str "\n"))) tNil)))))))) (gName 5))
  (tSeq (tAsg (tOp (rAddU K) (tV 5) (tLst (tCons (tOp (rAddU K) (tOp (rAddU K) (tSl (rSlU K) (tV 2) tNoPart (tPart (tV 3))) (tV 4)) (tSl (rSlU K) (tV 2) (tPart (tV 3)) tNoPart)) (tCons (tC (.str "")) (tCons (tC (.str "-")) (tCons (tC (.str "-0")) (tCons (tC (.str "0")) (tCons (tC (.str "00")) (tCons (tOp (rAddU K) (tC (.str "1")) (tOp rMulU (tC (.str "0")) (tC (.int 30)))) (tCons (tOp (rAddU K) (tC (.str "-")) (tOp rMulU (tC (.str "9")) (tC (.int 31)))) tNil)))))))))) (gName 5))
  (tRet (tOp (rAddU K) (tV 5) (tLst (tCons (tSl (rSlU K) (tV 2) tNoPart (tPart (tV 3))) (tCons (tOp rMulU (tC (.str "9")) (tC (.int 30))) (tCons (tC (.str "1_0")) (tCons (tC (.str "0x1")) (tCons (tOp rMulU (tC (.str "7")) (tC (.int 5000))) (tCons (tOp (rAddU K) (tC (.str "-")) (tOp rMulU (tC (.str "1")) (tC (.int 19000)))) tNil))))))))))))))
/-! law(_law_script): 0 _law_script, 1 _law_k, 2 _law_pool_here, 3 _law_number_here, 4 _law_far, 5 _law_low, 6 _law_high, 7 _law_text, 8 _law_thing, 9 _law_found, 10 _law_due -/
def t_law (K : PySem.W.Frag) (E : XK) : TS :=
  (tSeq (forS [(false, iRng1 (tCons (tCB (rMaxU K) (tCons (tC (.int 1)) (tCons (tCB (rMinU K) (tCons (tC (.int 12)) (tCons (tCB (rLenU K) (tCons (tV 0) tNil)) tNil))) tNil))) tNil))] (gName 1) (tSeq (tAsg (tCall (sp_l_pool K) [] E (tCons (tV 0) (tCons (tV 1) tNil))) (gName 2))
  (tSeq (tAsg (tCall (sp_l_number K) [] E (tCons (tV 2) tNil)) (gName 3))
  (tSeq (tAsg (tCall (sp_l_number K) [] E (tCons (tV 2) tNil)) (gName 4))
  (tSeq (tAsg (tCB (rMinU K) (tCons (tOp (rIxU K) (tLst (tCons (tV 3) (tCons (tOp (rAddU K) (tV 3) (tC (.int 1))) (tCons (tOp rSubU (tV 3) (tC (.int 2))) (tCons (tV 4) tNil))))) (tCall (sp_l_take K) [] E (tCons (tV 2) (tCons (tC (.int 4)) tNil)))) (tCons (tOp rSubU (tOp rPowU (tC (.int 10)) (tC (.int 30))) (tC (.int 1))) tNil))) (gName 5))
  (tSeq (tAsg (tOp (rIxU K) (tLst (tCons (tV 3) (tCons (tOp rSubU (tV 3) (tC (.int 1))) (tCons (tOp (rAddU K) (tV 3) (tC (.int 3))) (tCons (tV 4) (tCons (tOp rSubU (tOp rPowU (tC (.int 10)) (tC (.int 30))) (tC (.int 1))) tNil)))))) (tCall (sp_l_take K) [] E (tCons (tV 2) (tCons (tC (.int 5)) tNil)))) (gName 6))
  (tSeq (forS (seqOr K true (tCall (sp_l_texts K) [] E (tCons (tV 2) (tCons (tV 3) tNil)))) (gName 7) (tSeq (tAsg (tCall (sp_whole_in K) [] E (tCons (tV 7) (tCons (tV 5) (tCons (tV 6) tNil)))) (gName 9))
  (tSeq (tAsg (tC .non) (gName 10))
  (tCut (uIf (uAnd (tTru K (tCall (sp_l_plain K) [] E (tCons (tV 7) tNil))) (tBo (tChU rLeU rLeU (tV 5) (tCB rIntU (tCons (tV 7) tNil)) (tV 6)))) (tAsg (tCB rIntU (tCons (tV 7) tNil)) (gName 10)) tNext)
  (uIf (uOr (tBo (tOp (rNeU K) (tV 9) (tV 10))) (uOr (tTru K (tCB (rIsiU K) (tCons (tV 9) (tCons (tC (.ty "bool")) tNil)))) (tBo (tOp (rNeU K) (tOp rIsU (tV 9) (tC .non)) (tOp rIsU (tV 10) (tC .non)))))) (tRet (tC (.bl false))) tNext)))))
  (forS (seqOr K false (tLst (tCons (tV 3) (tCons (tC .non) (tCons (tC (.bl true)) (tCons (tLst (tCons (tCB rStrU (tCons (tV 3) tNil)) tNil)) (tCons (tTup (tCons (tCB rStrU (tCons (tV 3) tNil)) tNil)) (tCons (fun σ H Q => tDNewK σ H Q ∨ tDNewT σ H Q) tNil)))))))) (gName 8) (uIf (tBo (tOp rIsnU (tCall (sp_whole_in K) [] E (tCons (tV 8) (tCons (tV 5) (tCons (tV 6) tNil)))) (tC .non))) (tRet (tC (.bl false))) tNext)))))))))
  (tRet (tC (.bl true))))
/-- how many cells are gone through -/
theorem cells (n : Nat) (c : Int) (h : 0 ≤ c) (h2 : c ≤ 63) : ∃ N : Nat, (if (if (n : Int) < c then (n : Int) else c) > 1 then (if (n : Int) < c then (n : Int) else c) else 1) = (N : Int) ∧ N ≤ 63 :=
  ⟨(if (if (n : Int) < c then (n : Int) else c) > 1 then (if (n : Int) < c then (n : Int) else c) else 1).toNat, by split <;> split <;> omega, by split <;> split <;> omega⟩
theorem pure_l_pool {K a b H Q E} (h : P_l_pool K a b H Q E) : t_l_pool K E { nx := fun _ H' => Q .non H', rt := Q } [some a, some b, none, none] H := by
  obtain ⟨p, ns, k, rfl, rfl, h0, h1, hS, q⟩ := h
  refine cutW (fun σ' => ∃ c : Int, 0 ≤ c ∧ σ' = [some (.ref p), some (.int k), some (.int c), none]) ?_ ?_
  · refine Or.inl ⟨_, hS, ?_⟩
    refine cndD (fun hl => ?_) (fun hl => ⟨⟨0, by decide, rfl⟩, rfl⟩)
    refine Or.inl ⟨_, hS, ?_⟩
    refine ⟨by omega, ?_⟩
    refine ixIn hS (Int.emod_nonneg _ (by omega)) (Int.emod_lt_of_pos _ hl) fun v hv => ?_
    obtain ⟨n, _, rfl⟩ := List.mem_map.mp hv
    exact ⟨⟨_, by split <;> omega, rfl⟩, rfl⟩
  · rintro _ ⟨c, hc, rfl⟩
    refine ⟨mulR (by decide), mulR (by decide), by decide, ?_⟩
    have b1 := Int.emod_lt_of_pos (c * 7919 + k * 104729 + 12345) (show (0 : Int) < 2147483647 by decide)
    have b2 := Int.emod_nonneg (c * 7919 + k * 104729 + 12345) (show (2147483647 : Int) ≠ 0 by decide)
    refine ⟨mulL (by omega), by decide, ?_⟩
    refine cutW (fun σ' => ∃ c x : Int, 0 ≤ c ∧ σ' = [some (.ref p), some (.int k), some (.int c), some (.int x)]) ?_ ?_
    · refine Or.inl ⟨_, hS, ?_⟩
      refine cndD (fun hl => ?_) (fun hl => ?_)
      · ((try (conv => whnf)); repeat (first | (refine cndT rfl ?_; (try (conv => whnf))) | (refine cndF rfl ?_; (try (conv => whnf)))))
        exact ⟨⟨0, _, by decide, rfl⟩, rfl⟩
      · ((try (conv => whnf)); repeat (first | (refine cndT rfl ?_; (try (conv => whnf))) | (refine cndF rfl ?_; (try (conv => whnf)))))
        refine ⟨⟨by decide, by decide, by decide⟩, ?_⟩
        refine cndD (fun hl => ?_) (fun hl => ?_)
        · exact ⟨⟨0, _, by decide, rfl⟩, rfl⟩
        · exact ⟨⟨c, _, hc, rfl⟩, rfl⟩
    · rintro _ ⟨c', x, h, rfl⟩
      refine ⟨divS (by decide) (by decide), mulL (by decide), by decide, by show 3 ≤ sizeLine; decide, fun q' hq => ?_⟩
      exact q _ _ _ q' _ h hq upd_same (Same.new (Same.refl _) hq)
theorem pure_l_take {K a b H Q E} (h : P_l_take K a b H Q E) : t_l_take K E { nx := fun _ H' => Q .non H', rt := Q } [some a, some b, none] H := by
  obtain ⟨p, m, rfl, rfl, ⟨c, x, y, hp⟩, h0, h1, q⟩ := h
  refine ixLk hp (v := .int c) rfl ?_
  refine cndD (fun hl => ?_) (fun hl => ?_)
  · refine ixLk hp (v := .int c) rfl ⟨h0, ?_⟩
    refine ixLk hp (v := .int c) rfl ⟨divS h0 (by omega), ?_⟩
    refine setLk hp (j := 0) rfl ?_
    exact q _ _ (Int.emod_nonneg _ (by omega)) (Int.emod_lt_of_pos _ h0) ⟨_, _, _, upd_same⟩ But.upd
  · refine ixLk hp (v := .int x) rfl ⟨mulR (by decide), by decide, ?_⟩
    refine setLk hp (j := 1) rfl ?_
    refine ixLk upd_same (v := .int y) rfl ⟨mulR (by decide), ?_⟩
    refine ixLk upd_same (v := .int _) rfl ⟨divS (by decide) (by decide), by decide, ?_⟩
    refine setLk upd_same (j := 2) rfl ?_
    refine ixLk upd_same (v := .int _) rfl ⟨divS (by decide) (by decide), ?_⟩
    refine ixLk upd_same (v := .int _) rfl ⟨divS (by decide) (by decide), h0, ?_⟩
    exact q _ _ (Int.emod_nonneg _ (by omega)) (Int.emod_lt_of_pos _ h0) ⟨_, _, _, upd_same⟩ (But.updT But.upd)

theorem pure_l_figures {K a b H Q E} (h : P_l_figures K a b H Q E) : t_l_figures K E { nx := fun _ H' => Q .non H', rt := Q } [some a, some b, none, none] H := by
  obtain ⟨p, m, rfl, rfl, hp, h1, q⟩ := h
  refine ⟨(m : Int), rfl, by omega, by omega, ?_⟩
  refine forR (fun i σ H' => ∃ (n : Int) (v : Option V), 0 ≤ n ∧ n < 10 ^ i ∧ σ = [some (.ref p), some (.int m), some (.int n), v] ∧ Pool H' p ∧ But p H H') ⟨0, _, by decide, by decide, rfl, hp, .refl⟩ ?_ ?_
  · rintro i σ H' hi ⟨n, v, n0, n1, rfl, hp', hb⟩
    refine ⟨mulR (by decide), p, 10, rfl, rfl, hp', by decide, by decide, fun r H2 r0 r1 hp2 hb2 => ?_⟩
    refine ⟨n * 10 + r, _, by omega, ?_, rfl, hp2, hb.trans hb2⟩
    rw [Int.pow_succ]
    omega
  · rintro σ H' ⟨n, v, n0, n1, rfl, hp', hb⟩
    exact q n H' n0 n1 hp' hb

theorem pure_l_number {K a H Q E} (h : P_l_number K a H Q E) : t_l_number K E { nx := fun _ H' => Q .non H', rt := Q } [some a, none] H := by
  obtain ⟨p, rfl, hp, q⟩ := h
  refine ⟨by show 6 ≤ sizeLine; decide, fun l n1 => ?_⟩
  have e1 := hp.ne n1
  refine ⟨p, 6, rfl, rfl, hp.new n1, by decide, by decide, fun r H1 r0 r1 p1 b1 => ?_⟩
  refine ixIn (SqL.of (b1.at upd_same e1)) r0 r1 fun v hv => ?_
  obtain ⟨m, rfl, hm⟩ : ∃ m : Nat, v = .int m ∧ m ≤ 29 := by
    simp only [List.mem_cons, List.not_mem_nil, or_false] at hv
    rcases hv with rfl | rfl | rfl | rfl | rfl | rfl
    · exact ⟨1, rfl, by decide⟩
    · exact ⟨1, rfl, by decide⟩
    · exact ⟨2, rfl, by decide⟩
    · exact ⟨3, rfl, by decide⟩
    · exact ⟨9, rfl, by decide⟩
    · exact ⟨29, rfl, by decide⟩
  refine ⟨p, m, rfl, rfl, p1, by omega, fun n H2 k0 k1 p2 b2 => ?_⟩
  refine ⟨by show 3 ≤ sizeLine; decide, fun l2 n2 => ?_⟩
  have e2 := p2.ne n2
  refine ⟨p, 3, rfl, rfl, p2.new n2, by decide, by decide, fun r H3 r0 r1 p3 b3 => ?_⟩
  refine ixIn (SqL.of (b3.at upd_same e2)) r0 r1 fun v hv => ?_
  obtain ⟨g, rfl, hg⟩ : ∃ m : Int, v = .int m ∧ (m = 1 ∨ m = -1) := by
    simp only [List.mem_cons, List.not_mem_nil, or_false] at hv
    rcases hv with rfl | rfl | rfl
    · exact ⟨1, rfl, .inl rfl⟩
    · exact ⟨1, rfl, .inl rfl⟩
    · exact ⟨-1, rfl, .inr rfl⟩
  refine ⟨mulR (by omega), ?_⟩
  have hk : (10 : Nat) ^ m ≤ 10 ^ 29 := Nat.pow_le_pow_right (by decide) hm
  have hk2 : (10 : Int) ^ m ≤ 10 ^ 29 := by exact_mod_cast hk
  refine q _ H3 ?_ p3 ((((Kp.same (Same.new (Same.refl _) n1)).trans (.but b1)).trans (.but b2)).trans ((Kp.same (Same.new (Same.refl _) n2)).trans (.but b3)))
  rcases hg with rfl | rfl <;> omega

theorem str_eq {a b : Str} : a = b ↔ a.cps.toList = b.cps.toList := ⟨fun h => by rw [h], fun h => by
  cases a; cases b
  exact congrArg _ (Array.toList_inj.mp h)⟩
theorem cut_to1 (z : Str) : (cutS z none (some 1)).cps.toList = z.cps.toList.take 1 := by
  show ((z.cps.toList.drop 0).take (min 1 z.length - 0)).toArray.toList = _
  rw [List.drop_zero, List.toList_toArray, Nat.sub_zero, ← str_len, List.take_eq_take_iff]
  omega
theorem cut_from1 (z : Str) : (cutS z (some 1) none).cps.toList = z.cps.toList.drop 1 := by
  show ((z.cps.toList.drop (min 1 z.length)).take (z.length - min 1 z.length)).toArray.toList = _
  rw [List.toList_toArray, ← str_len]
  cases z.cps.toList with
  | nil => rfl
  | cons a l =>
    rw [List.length_cons, show min 1 (l.length + 1) = 1 by omega, List.drop_succ_cons, List.drop_zero, List.take_of_length_le (by omega)]
theorem fig_le (z : Str) : (figS z).length ≤ z.length := by
  unfold figS
  split
  · exact len_cut _ _ _
  · exact Nat.le_refl _
theorem take1 {l : List Nat} {c : Nat} : l.take 1 = [c] ↔ l.head? = some c := by
  cases l with
  | nil => simp
  | cons a l => simp
theorem figures (c : Nat) : c ∈ (Str.ofString "0123456789").cps.toList ↔ (48 ≤ c ∧ c ≤ 57) := by
  have e : (Str.ofString "0123456789").cps.toList = List.range' 48 10 := by decide +kernel
  rw [e, List.mem_range'_1]
  omega
theorem single_lt {c d : Nat} : decide (([c] : List Nat) < [d]) = decide (c < d) := by
  by_cases h : c < d
  · rw [decide_eq_true h, decide_eq_true]
    exact List.Lex.rel h
  · rw [decide_eq_false h, decide_eq_false]
    intro z
    cases z with
    | rel z => exact h z
    | cons z => cases z
theorem head_eq {z : Str} {c d : Nat} (h : z.cps.toList.head? = some c) : ((⟨#[c]⟩ : Str) = ⟨#[d]⟩) ↔ z.cps.toList.head? = some d := by
  rw [str_eq, h]
  simp
theorem at0 {z : Str} (h : 1 ≤ z.length) : ∃ c, atI z.cps.toList 0 = some c ∧ z.cps.toList.head? = some c := by
  rw [← str_len] at h
  cases e : z.cps.toList with
  | nil => rw [e] at h; simp at h
  | cons c l => exact ⟨c, atI_nat (j := 0) rfl, rfl⟩
theorem plain_len {z : Str} (h : ¬ ((1 : Int) ≤ ((figS z).length : Nat)) ∨ ¬ (((figS z).length : Nat) : Int) ≤ 30) : plainS z = false := by
  unfold plainS
  rcases h with h | h
  · rw [decide_eq_false (by omega)]; rfl
  · rw [decide_eq_false (p := (figS z).length ≤ 30) (by omega)]; simp
theorem plain_dig {z : Str} (h : digL (figS z).cps.toList = false) : plainS z = false := by
  unfold plainS
  rw [h]
  simp
theorem plain_end {z : Str} (h1 : (1 : Int) ≤ ((figS z).length : Nat)) (h2 : (((figS z).length : Nat) : Int) ≤ 30) (h3 : digL (figS z).cps.toList = true) : plainS z = (!decide ((figS z).cps.toList.head? = some 48) || decide (z = Str.ofString "0")) := by
  unfold plainS
  rw [h3, decide_eq_true (by omega), decide_eq_true (p := (figS z).length ≤ 30) (by omega)]
  rfl
theorem dig_id {l : List Nat} : (l.map fun c => decide (48 ≤ c) && decide (c ≤ 57)).all id = digL l := by
  rw [List.all_map]
  rfl
theorem pure_is_plain {K a H Q E} (h : P_is_plain K a H Q E) : t_is_plain K E { nx := fun _ H' => Q .non H', rt := Q } [some a, none, none] H := by
  obtain ⟨z, rfl, hz, q⟩ := h
  have hz2 : z.length ≤ sizeLine := by rw [sizeLine_eq]; omega
  have hf := fig_le z
  have hf2 : (figS z).length ≤ sizeLine := by omega
  refine cutW (fun σ' => σ' = [some (.str z), some (.str (figS z)), none]) ?_ ?_
  · ((try (conv => whnf)); repeat (first | (refine cndT rfl ?_; (try (conv => whnf))) | (refine cndF rfl ?_; (try (conv => whnf)))))
    refine ⟨_, rfl, slS hz2 ?_⟩
    ((try (conv => whnf)); repeat (first | (refine cndT rfl ?_; (try (conv => whnf))) | (refine cndF rfl ?_; (try (conv => whnf)))))
    (refine cndB (fun c1 => ?_) (fun c1 => ?_) <;> (try simp only [Bool.not_eq_eq_eq_not, Bool.not_true, Bool.not_false, decide_eq_true_eq, decide_eq_false_iff_not, Int.not_le, Int.not_lt] at c1) <;> ((try (conv => whnf)); repeat (first | (refine cndT rfl ?_; (try (conv => whnf))) | (refine cndF rfl ?_; (try (conv => whnf))))))
    · refine ⟨_, rfl, slS hz2 ?_⟩
      ((try (conv => whnf)); repeat (first | (refine cndT rfl ?_; (try (conv => whnf))) | (refine cndF rfl ?_; (try (conv => whnf)))))
      have e : figS z = cutS z (some 1) none := by
        unfold figS
        rw [str_eq, cut_to1, show (Str.ofString "-").cps.toList = [45] by decide +kernel, take1] at c1
        rw [if_pos c1]
      rw [e]
      exact ⟨rfl, rfl⟩
    · have e : figS z = z := by
        unfold figS
        rw [str_eq, cut_to1, show (Str.ofString "-").cps.toList = [45] by decide +kernel, take1] at c1
        rw [if_neg c1]
      rw [e]
      exact ⟨rfl, rfl⟩
  · rintro _ rfl
    ((try (conv => whnf)); repeat (first | (refine cndT rfl ?_; (try (conv => whnf))) | (refine cndF rfl ?_; (try (conv => whnf)))))
    refine ⟨hf2, ?_⟩
    ((try (conv => whnf)); repeat (first | (refine cndT rfl ?_; (try (conv => whnf))) | (refine cndF rfl ?_; (try (conv => whnf)))))
    (refine cndB (fun c1 => ?_) (fun c1 => ?_) <;> (try simp only [Bool.not_eq_eq_eq_not, Bool.not_true, Bool.not_false, decide_eq_true_eq, decide_eq_false_iff_not, Int.not_le, Int.not_lt] at c1) <;> ((try (conv => whnf)); repeat (first | (refine cndT rfl ?_; (try (conv => whnf))) | (refine cndF rfl ?_; (try (conv => whnf))))))
    · (refine cndB (fun c2 => ?_) (fun c2 => ?_) <;> (try simp only [Bool.not_eq_eq_eq_not, Bool.not_true, Bool.not_false, decide_eq_true_eq, decide_eq_false_iff_not, Int.not_le, Int.not_lt] at c2) <;> ((try (conv => whnf)); repeat (first | (refine cndT rfl ?_; (try (conv => whnf))) | (refine cndF rfl ?_; (try (conv => whnf))))))
      · have q2 := q H (Same.refl _)
        rw [plain_len (.inr (by omega))] at q2
        exact q2
      · left
        ((try (conv => whnf)); repeat (first | (refine cndT rfl ?_; (try (conv => whnf))) | (refine cndF rfl ?_; (try (conv => whnf)))))
        refine lcStr (fun c => .bl (decide (48 ≤ c) && decide (c ≤ 57))) (by omega) (fun c H' s R k => ⟨rfl, ?_⟩) (fun D H' hD s => ?_)
        · have k := k H' (Same.refl _)
          have e : (decide (48 ≤ c) && decide (c ≤ 57)) = (!(Builtin.Str.occurrences (Str.ofString "0123456789") ⟨#[c]⟩ 0 (Str.ofString "0123456789").length 1).isEmpty) := by
            rw [PySem.StrLaws.found_one]
            by_cases e : 48 ≤ c ∧ c ≤ 57
            · rw [decide_eq_true ((figures c).mpr e), decide_eq_true e.1, decide_eq_true e.2]; rfl
            · rw [decide_eq_false (fun z => e ((figures c).mp z))]
              by_cases e1 : 48 ≤ c
              · rw [decide_eq_false (p := c ≤ 57) (fun z => e ⟨e1, z⟩)]; simp
              · rw [decide_eq_false e1]; rfl
          rw [e] at k
          exact k
        · refine ⟨D, (figS z).cps.toList.map (fun c => decide (48 ≤ c) && decide (c ≤ 57)), rfl, SqL.of (by rw [hD, List.map_map]; rfl), ?_⟩
          rw [dig_id]
          have q2 := q H' s
          cases hd : digL (figS z).cps.toList with
          | false =>
            rw [plain_dig hd] at q2
            ((try (conv => whnf)); repeat (first | (refine cndT rfl ?_; (try (conv => whnf))) | (refine cndF rfl ?_; (try (conv => whnf)))))
            exact q2
          | true =>
            rw [plain_end (by omega) (by omega) hd] at q2
            ((try (conv => whnf)); repeat (first | (refine cndT rfl ?_; (try (conv => whnf))) | (refine cndF rfl ?_; (try (conv => whnf)))))
            obtain ⟨c, hc, hc2⟩ := at0 (z := figS z) (by omega)
            refine ixS hf2 hc ?_
            ((try (conv => whnf)); repeat (first | (refine cndT rfl ?_; (try (conv => whnf))) | (refine cndF rfl ?_; (try (conv => whnf)))))
            have e := head_eq (d := 48) hc2
            refine cndB (fun h => ?_) (fun h => ?_)
            · ((try (conv => whnf)); repeat (first | (refine cndT rfl ?_; (try (conv => whnf))) | (refine cndF rfl ?_; (try (conv => whnf)))))
              have h' : ¬ ((⟨#[c]⟩ : Str) = ⟨#[48]⟩) := by
                intro z
                rw [show (Str.ofString "0") = (⟨#[48]⟩ : Str) by decide +kernel, decide_eq_true z] at h
                cases h
              rw [e] at h'
              rw [decide_eq_false h'] at q2
              exact q2
            · ((try (conv => whnf)); repeat (first | (refine cndT rfl ?_; (try (conv => whnf))) | (refine cndF rfl ?_; (try (conv => whnf)))))
              have h' : ((⟨#[c]⟩ : Str) = ⟨#[48]⟩) := by
                rw [show (Str.ofString "0") = (⟨#[48]⟩ : Str) by decide +kernel] at h
                simpa using h
              rw [e] at h'
              rw [decide_eq_true h'] at q2
              exact q2
    · have q2 := q H (Same.refl _)
      rw [plain_len (.inl (by omega))] at q2
      exact q2
theorem ne_empty {z : Str} (h : ¬ z = Str.ofString "") : 1 ≤ z.length := by
  rcases Nat.eq_zero_or_pos z.length with e | e
  · refine absurd ?_ h
    have e2 : z.cps = #[] := Array.eq_empty_of_size_eq_zero e
    cases z
    subst e2
    rfl
  · exact e
theorem len_empty : (Str.ofString "").length = 0 := rfl
theorem pure_l_plain {K a H Q E} (h : P_l_plain K a H Q E) : t_l_plain K E { nx := fun _ H' => Q .non H', rt := Q } [some a, none, none] H := by
  obtain ⟨z, rfl, hz, q⟩ := h
  have hz2 : z.length ≤ sizeLine := by rw [sizeLine_eq]; omega
  have hf := fig_le z
  have hf2 : (figS z).length ≤ sizeLine := by omega
  have ed : (Str.ofString "-") = (⟨#[45]⟩ : Str) := by decide +kernel
  have e0 : (Str.ofString "0") = (⟨#[48]⟩ : Str) := by decide +kernel
  refine cutW (fun σ' => σ' = [some (.str z), some (.str (figS z)), none]) ?_ ?_
  · ((try (conv => whnf)); repeat (first | (refine cndT rfl ?_; (try (conv => whnf))) | (refine cndF rfl ?_; (try (conv => whnf)))))
    (refine cndB (fun c1 => ?_) (fun c1 => ?_) <;> (try simp only [Bool.not_eq_eq_eq_not, Bool.not_true, Bool.not_false, decide_eq_true_eq, decide_eq_false_iff_not, Int.not_le, Int.not_lt] at c1) <;> ((try (conv => whnf)); repeat (first | (refine cndT rfl ?_; (try (conv => whnf))) | (refine cndF rfl ?_; (try (conv => whnf))))))
    · obtain ⟨c, hc, hc2⟩ := at0 (z := z) (ne_empty c1)
      refine ixS hz2 hc ?_
      ((try (conv => whnf)); repeat (first | (refine cndT rfl ?_; (try (conv => whnf))) | (refine cndF rfl ?_; (try (conv => whnf)))))
      (refine cndB (fun c2 => ?_) (fun c2 => ?_) <;> (try simp only [Bool.not_eq_eq_eq_not, Bool.not_true, Bool.not_false, decide_eq_true_eq, decide_eq_false_iff_not, Int.not_le, Int.not_lt] at c2) <;> ((try (conv => whnf)); repeat (first | (refine cndT rfl ?_; (try (conv => whnf))) | (refine cndF rfl ?_; (try (conv => whnf))))))
      · rw [ed, head_eq hc2] at c2
        refine ⟨_, rfl, slS hz2 ?_⟩
        ((try (conv => whnf)); repeat (first | (refine cndT rfl ?_; (try (conv => whnf))) | (refine cndF rfl ?_; (try (conv => whnf)))))
        have e : figS z = cutS z (some 1) none := by
          unfold figS
          rw [if_pos c2]
        rw [e]
        exact ⟨rfl, rfl⟩
      · rw [ed, head_eq hc2] at c2
        have e : figS z = z := by
          unfold figS
          rw [if_neg c2]
        rw [e]
        exact ⟨rfl, rfl⟩
    · have c1 : z = Str.ofString "" := by simpa using c1
      have e : figS z = z := by
        unfold figS
        rw [if_neg (by rw [c1]; decide)]
      rw [e]
      exact ⟨rfl, rfl⟩
  · rintro _ rfl
    ((try (conv => whnf)); repeat (first | (refine cndT rfl ?_; (try (conv => whnf))) | (refine cndF rfl ?_; (try (conv => whnf)))))
    (refine cndB (fun c0 => ?_) (fun c0 => ?_) <;> (try simp only [Bool.not_eq_eq_eq_not, Bool.not_true, Bool.not_false, decide_eq_true_eq, decide_eq_false_iff_not, Int.not_le, Int.not_lt] at c0) <;> ((try (conv => whnf)); repeat (first | (refine cndT rfl ?_; (try (conv => whnf))) | (refine cndF rfl ?_; (try (conv => whnf))))))
    · have q2 := q H (Same.refl _)
      rw [plain_len (.inl (by rw [c0, len_empty]; decide))] at q2
      exact q2
    have f1 := ne_empty c0
    refine ⟨hf2, ?_⟩
    ((try (conv => whnf)); repeat (first | (refine cndT rfl ?_; (try (conv => whnf))) | (refine cndF rfl ?_; (try (conv => whnf)))))
    (refine cndB (fun c2 => ?_) (fun c2 => ?_) <;> (try simp only [Bool.not_eq_eq_eq_not, Bool.not_true, Bool.not_false, decide_eq_true_eq, decide_eq_false_iff_not, Int.not_le, Int.not_lt] at c2) <;> ((try (conv => whnf)); repeat (first | (refine cndT rfl ?_; (try (conv => whnf))) | (refine cndF rfl ?_; (try (conv => whnf))))))
    · have q2 := q H (Same.refl _)
      rw [plain_len (.inr (by omega))] at q2
      exact q2
    left
    ((try (conv => whnf)); repeat (first | (refine cndT rfl ?_; (try (conv => whnf))) | (refine cndF rfl ?_; (try (conv => whnf)))))
    refine lcStr (fun c => .bl (decide (48 ≤ c) && decide (c ≤ 57))) (by omega) (fun c H' s R k => ⟨rfl, ?_⟩) (fun D H' hD s => ?_)
    · have k := k H' (Same.refl _)
      ((try (conv => whnf)); repeat (first | (refine cndT rfl ?_; (try (conv => whnf))) | (refine cndF rfl ?_; (try (conv => whnf)))))
      refine cndB (fun h => ?_) (fun h => ?_)
      · ((try (conv => whnf)); repeat (first | (refine cndT rfl ?_; (try (conv => whnf))) | (refine cndF rfl ?_; (try (conv => whnf)))))
        have h' : (!decide (([c] : List Nat) < [48])) = true := h
        rw [single_lt] at h'
        have e : (!decide (([57] : List Nat) < [c])) = decide (c ≤ 57) := by
          rw [single_lt]
          by_cases z : 57 < c
          · rw [decide_eq_true z, decide_eq_false (by omega)]; rfl
          · rw [decide_eq_false z, decide_eq_true (by omega)]; rfl
        rw [decide_eq_true (p := 48 ≤ c) (by simpa using h'), ← e] at k
        exact k
      · ((try (conv => whnf)); repeat (first | (refine cndT rfl ?_; (try (conv => whnf))) | (refine cndF rfl ?_; (try (conv => whnf)))))
        have h' : (!decide (([c] : List Nat) < [48])) = false := h
        rw [single_lt] at h'
        rw [decide_eq_false (p := 48 ≤ c) (by simpa using h')] at k
        exact k
    · refine ⟨D, (figS z).cps.toList.map (fun c => decide (48 ≤ c) && decide (c ≤ 57)), rfl, SqL.of (by rw [hD, List.map_map]; rfl), ?_⟩
      rw [dig_id]
      have q2 := q H' s
      cases hd : digL (figS z).cps.toList with
      | false =>
        rw [plain_dig hd] at q2
        ((try (conv => whnf)); repeat (first | (refine cndT rfl ?_; (try (conv => whnf))) | (refine cndF rfl ?_; (try (conv => whnf)))))
        exact q2
      | true =>
        rw [plain_end (by omega) (by omega) hd] at q2
        ((try (conv => whnf)); repeat (first | (refine cndT rfl ?_; (try (conv => whnf))) | (refine cndF rfl ?_; (try (conv => whnf)))))
        refine cndB (fun h => ?_) (fun h => ?_)
        · ((try (conv => whnf)); repeat (first | (refine cndT rfl ?_; (try (conv => whnf))) | (refine cndF rfl ?_; (try (conv => whnf)))))
          rw [h, Bool.or_true] at q2
          exact q2
        · ((try (conv => whnf)); repeat (first | (refine cndT rfl ?_; (try (conv => whnf))) | (refine cndF rfl ?_; (try (conv => whnf)))))
          rw [h, Bool.or_false] at q2
          obtain ⟨c, hc, hc2⟩ := at0 (z := figS z) (by omega)
          refine ixS hf2 hc ?_
          ((try (conv => whnf)); repeat (first | (refine cndT rfl ?_; (try (conv => whnf))) | (refine cndF rfl ?_; (try (conv => whnf)))))
          have e : decide ((⟨#[c]⟩ : Str) = Str.ofString "0") = decide ((figS z).cps.toList.head? = some 48) := by
            rw [e0]
            exact decide_eq_decide.mpr (head_eq hc2)
          rw [← e] at q2
          exact q2
theorem dig_all {l : List Nat} (h : digL l = true) : NumText.AllDigits l := by
  intro c hc
  have := List.all_eq_true.mp h c hc
  simpa using this
/-- a number plainly written is read -/
theorem plain_int {z : Str} (h : plainS z = true) : (∃ n, PySem.intText? z = some n) ∧ z.length ≤ 31 := by
  unfold plainS at h
  simp only [Bool.and_eq_true, decide_eq_true_eq] at h
  obtain ⟨⟨⟨h1, h2⟩, h3⟩, _⟩ := h
  have hd := dig_all h3
  by_cases e : z.cps.toList.head? = some 45
  · have ef : figS z = cutS z (some 1) none := by unfold figS; rw [if_pos e]
    rw [ef] at h1 h2 hd
    rw [cut_from1] at hd
    cases ez : z.cps.toList with
    | nil => rw [ez] at e; cases e
    | cons c l =>
      rw [ez] at e hd
      have ec : c = 45 := by simpa using e
      subst ec
      have hl : (cutS z (some 1) none).length = l.length := by
        rw [← str_len, cut_from1, ez]
        rfl
      have hz : z.length = l.length + 1 := by
        rw [← str_len, ez]
        rfl
      exact ⟨⟨_, PySem.intText_neg ez hd (fun z => by rw [z] at hl; simp at hl; omega) (by omega)⟩, by omega⟩
  · have ef : figS z = z := by unfold figS; rw [if_neg e]
    rw [ef] at h1 h2 hd
    exact ⟨⟨_, PySem.intText_digits hd (fun e => by rw [← str_len, e] at h1; simp at h1) (by omega)⟩, by omega⟩
theorem pure_whole_in {K a b c H Q E} (h : P_whole_in K a b c H Q E) : t_whole_in K E { nx := fun _ H' => Q .non H', rt := Q } [some a, some b, some c, none] H := by
  obtain ⟨t, lo, hi, ht, rfl, rfl, hl, q⟩ := h
  rcases ht.str_or with ⟨z, rfl, rfl⟩ | ⟨nz, h1⟩
  · have hz := hl z rfl
    refine isiN ht (b := true) (by decide +kernel) ?_
    ((try (conv => whnf)); repeat (first | (refine cndT rfl ?_; (try (conv => whnf))) | (refine cndF rfl ?_; (try (conv => whnf)))))
    refine ⟨z, rfl, hz, fun H1 s1 => ?_⟩
    have q2 := q H1 s1
    cases hp : plainS z with
    | false =>
      rw [show wholeIn (.str z) lo hi = .non by show wholeS z lo hi = _; unfold wholeS; rw [hp]; rfl] at q2
      ((try (conv => whnf)); repeat (first | (refine cndT rfl ?_; (try (conv => whnf))) | (refine cndF rfl ?_; (try (conv => whnf)))))
      exact q2
    | true =>
      obtain ⟨⟨n, hn⟩, h31⟩ := plain_int hp
      have e : wholeIn (.str z) lo hi = if lo ≤ n ∧ n ≤ hi then .int n else .non := by
        show wholeS z lo hi = _
        unfold wholeS
        rw [hp, hn]
        rfl
      rw [e] at q2
      ((try (conv => whnf)); repeat (first | (refine cndT rfl ?_; (try (conv => whnf))) | (refine cndF rfl ?_; (try (conv => whnf)))))
      refine ⟨z, n, rfl, hn, by omega, ?_⟩
      ((try (conv => whnf)); repeat (first | (refine cndT rfl ?_; (try (conv => whnf))) | (refine cndF rfl ?_; (try (conv => whnf)))))
      (refine cndB (fun c1 => ?_) (fun c1 => ?_) <;> (try simp only [Bool.not_eq_eq_eq_not, Bool.not_true, Bool.not_false, decide_eq_true_eq, decide_eq_false_iff_not, Int.not_le, Int.not_lt] at c1) <;> ((try (conv => whnf)); repeat (first | (refine cndT rfl ?_; (try (conv => whnf))) | (refine cndF rfl ?_; (try (conv => whnf))))))
      · (refine cndB (fun c2 => ?_) (fun c2 => ?_) <;> (try simp only [Bool.not_eq_eq_eq_not, Bool.not_true, Bool.not_false, decide_eq_true_eq, decide_eq_false_iff_not, Int.not_le, Int.not_lt] at c2) <;> ((try (conv => whnf)); repeat (first | (refine cndT rfl ?_; (try (conv => whnf))) | (refine cndF rfl ?_; (try (conv => whnf))))))
        · rw [if_pos ⟨c1, c2⟩] at q2
          exact q2
        · rw [if_neg (by omega)] at q2
          exact q2
      · rw [if_neg (by omega)] at q2
        exact q2
  · have e : wholeIn a lo hi = .non := by
      unfold wholeIn
      split
      · exact absurd rfl (nz _)
      · rfl
    refine isiN ht h1 ?_
    have q2 := q H (Same.refl _)
    rw [e] at q2
    ((try (conv => whnf)); repeat (first | (refine cndT rfl ?_; (try (conv => whnf))) | (refine cndF rfl ?_; (try (conv => whnf)))))
    exact q2
theorem mulOk1 {c : Nat} {n : Int} (h0 : 0 ≤ n) (h1 : n ≤ 100000) : MulOk ⟨#[c]⟩ n := by
  have e : (⟨#[c]⟩ : Str).length = 1 := rfl
  refine ⟨by simp; omega, fun a b => ?_, fun a b => ?_⟩
  · rw [e]
    have : n * 1 ≤ 2 ^ 63 - 1 := by omega
    have := Int.le_ediv_of_mul_le (a := 1) (c := n) (b := 2 ^ 63 - 1) (by omega) (by omega)
    omega
  · rw [e]
    show decide (1 * n.toNat > sizeLine) = false
    rw [sizeLine_eq]
    exact decide_eq_false (by omega)
theorem mul1_len {c : Nat} {n : Int} : (Txt.mul ⟨#[c]⟩ n).length = n.toNat := by
  rw [← str_len, PyProof.Rows.mul_one_list, List.length_replicate]
theorem log_len {n : Int} (h : n.natAbs < 10 ^ 29) : (Str.ofString (toString n)).length ≤ 40 := by
  have h1 := int_text_length_le10 (k := 29) (by decide) h
  rw [PySem.ofString_length]
  omega
theorem pure_l_texts {K a b H Q E} (h : P_l_texts K a b H Q E) : t_l_texts K E { nx := fun _ H' => Q .non H', rt := Q } [some a, some b, none, none, none, none] H := by
  obtain ⟨p, n, rfl, rfl, hn, hp, q⟩ := h
  have hl := log_len hn
  ((try (conv => whnf)); repeat (first | (refine cndT rfl ?_; (try (conv => whnf))) | (refine cndF rfl ?_; (try (conv => whnf)))))
  refine ⟨n, rfl, lg (k := 100) (by omega) (by decide), ?_⟩
  ((try (conv => whnf)); repeat (first | (refine cndT rfl ?_; (try (conv => whnf))) | (refine cndF rfl ?_; (try (conv => whnf)))))
  generalize Str.ofString (toString n) = z at hl q ⊢
  have hz2 : z.length ≤ sizeLine := by rw [sizeLine_eq]; omega
  refine ⟨hz2, ?_⟩
  ((try (conv => whnf)); repeat (first | (refine cndT rfl ?_; (try (conv => whnf))) | (refine cndF rfl ?_; (try (conv => whnf)))))
  refine ⟨p, z.length + 1, rfl, rfl, hp, by omega, by omega, fun r H1 r0 r1 p1 b1 => ?_⟩
  ((try (conv => whnf)); repeat (first | (refine cndT rfl ?_; (try (conv => whnf))) | (refine cndF rfl ?_; (try (conv => whnf)))))
  refine ⟨p, 19, rfl, rfl, p1, by decide, by decide, fun r2 H2 u0 u1 p2 b2 => ?_⟩
  have h19 : (Str.ofString "0123456789-+ .,_ex\n").length = 19 := by decide +kernel
  refine ixSIn (by rw [h19, sizeLine_eq]; omega) u0 (by rw [h19]; exact u1) fun c hc => ?_
  ((try (conv => whnf)); repeat (first | (refine cndT rfl ?_; (try (conv => whnf))) | (refine cndF rfl ?_; (try (conv => whnf)))))
  refine ⟨by rw [sizeLine_eq]; show 1 + z.length ≤ _; omega, ?_⟩
  ((try (conv => whnf)); repeat (first | (refine cndT rfl ?_; (try (conv => whnf))) | (refine cndF rfl ?_; (try (conv => whnf)))))
  refine ⟨by rw [sizeLine_eq]; show 1 + z.length ≤ _; omega, ?_⟩
  ((try (conv => whnf)); repeat (first | (refine cndT rfl ?_; (try (conv => whnf))) | (refine cndF rfl ?_; (try (conv => whnf)))))
  refine ⟨by rw [sizeLine_eq]; show 1 + z.length ≤ _; omega, ?_⟩
  ((try (conv => whnf)); repeat (first | (refine cndT rfl ?_; (try (conv => whnf))) | (refine cndF rfl ?_; (try (conv => whnf)))))
  refine ⟨by rw [sizeLine_eq]; show 1 + z.length ≤ _; omega, ?_⟩
  ((try (conv => whnf)); repeat (first | (refine cndT rfl ?_; (try (conv => whnf))) | (refine cndF rfl ?_; (try (conv => whnf)))))
  refine ⟨by rw [sizeLine_eq]; show z.length + 1 ≤ _; omega, ?_⟩
  ((try (conv => whnf)); repeat (first | (refine cndT rfl ?_; (try (conv => whnf))) | (refine cndF rfl ?_; (try (conv => whnf)))))
  refine ⟨by rw [sizeLine_eq]; show z.length + 1 ≤ _; omega, ?_⟩
  ((try (conv => whnf)); repeat (first | (refine cndT rfl ?_; (try (conv => whnf))) | (refine cndF rfl ?_; (try (conv => whnf)))))
  refine ⟨by show 7 ≤ sizeLine; decide, ?_⟩
  (intro l1 n1; generalize hG : L2.upd _ l1 _ = G1; have s1 := sameOf n1 hG; have e1 := atOf hG; clear hG; ((try (conv => whnf)); repeat (first | (refine cndT rfl ?_; (try (conv => whnf))) | (refine cndF rfl ?_; (try (conv => whnf))))))
  refine ⟨_, rfl, slS hz2 ?_⟩
  ((try (conv => whnf)); repeat (first | (refine cndT rfl ?_; (try (conv => whnf))) | (refine cndF rfl ?_; (try (conv => whnf)))))
  have c1 := len_cut z none (some r)
  have c2 := len_cut z (some r) none
  have e1' : (cutS z none (some r) ++ (⟨#[c]⟩ : Str)).length = (cutS z none (some r)).length + 1 := by rw [len_app]; rfl
  refine ⟨by rw [sizeLine_eq]; show _ + 1 ≤ _; omega, ?_⟩
  ((try (conv => whnf)); repeat (first | (refine cndT rfl ?_; (try (conv => whnf))) | (refine cndF rfl ?_; (try (conv => whnf)))))
  refine ⟨_, rfl, slS hz2 ?_⟩
  ((try (conv => whnf)); repeat (first | (refine cndT rfl ?_; (try (conv => whnf))) | (refine cndF rfl ?_; (try (conv => whnf)))))
  refine ⟨by rw [sizeLine_eq, e1']; omega, ?_⟩
  ((try (conv => whnf)); repeat (first | (refine cndT rfl ?_; (try (conv => whnf))) | (refine cndF rfl ?_; (try (conv => whnf)))))
  have d0 : (Str.ofString "0") = (⟨#[48]⟩ : Str) := by decide +kernel
  have d9 : (Str.ofString "9") = (⟨#[57]⟩ : Str) := by decide +kernel
  have d7 : (Str.ofString "7") = (⟨#[55]⟩ : Str) := by decide +kernel
  have d1 : (Str.ofString "1") = (⟨#[49]⟩ : Str) := by decide +kernel
  have L1 : (Str.ofString "1").length = 1 := rfl
  have LM : (Str.ofString "-").length = 1 := rfl
  have m0 : (Txt.mul (Str.ofString "0") 30).length ≤ 30 := by rw [d0, mul1_len]; decide
  have m9 : (Txt.mul (Str.ofString "9") 31).length ≤ 31 := by rw [d9, mul1_len]; decide
  have m9' : (Txt.mul (Str.ofString "9") 30).length ≤ 30 := by rw [d9, mul1_len]; decide
  have m7 : (Txt.mul (Str.ofString "7") 5000).length ≤ 5000 := by rw [d7, mul1_len]; decide
  have m1 : (Txt.mul (Str.ofString "1") 19000).length ≤ 19000 := by rw [d1, mul1_len]; decide
  refine ⟨by rw [d0]; exact mulOk1 (by decide) (by decide), ?_⟩
  ((try (conv => whnf)); repeat (first | (refine cndT rfl ?_; (try (conv => whnf))) | (refine cndF rfl ?_; (try (conv => whnf)))))
  refine ⟨by rw [sizeLine_eq, L1]; omega, ?_⟩
  ((try (conv => whnf)); repeat (first | (refine cndT rfl ?_; (try (conv => whnf))) | (refine cndF rfl ?_; (try (conv => whnf)))))
  refine ⟨by rw [d9]; exact mulOk1 (by decide) (by decide), ?_⟩
  ((try (conv => whnf)); repeat (first | (refine cndT rfl ?_; (try (conv => whnf))) | (refine cndF rfl ?_; (try (conv => whnf)))))
  refine ⟨by rw [sizeLine_eq, LM]; omega, ?_⟩
  ((try (conv => whnf)); repeat (first | (refine cndT rfl ?_; (try (conv => whnf))) | (refine cndF rfl ?_; (try (conv => whnf)))))
  refine ⟨by show 8 ≤ sizeLine; decide, ?_⟩
  (intro l2 n2; generalize hG : L2.upd _ l2 _ = G2; have s2 := sameOf n2 hG; have e2 := atOf hG; clear hG; ((try (conv => whnf)); repeat (first | (refine cndT rfl ?_; (try (conv => whnf))) | (refine cndF rfl ?_; (try (conv => whnf))))))
  refine .inl ⟨l1, l2, _, _, rfl, rfl, by (repeat (first | assumption | (refine Same.get (by assumption) ?_))), e2, by show 15 ≤ sizeLine; decide, ?_⟩
  (intro l3 n3; generalize hG : L2.upd _ l3 _ = G3; have s3 := sameOf n3 hG; have e3 := atOf hG; clear hG; ((try (conv => whnf)); repeat (first | (refine cndT rfl ?_; (try (conv => whnf))) | (refine cndF rfl ?_; (try (conv => whnf))))))
  refine ⟨_, rfl, slS hz2 ?_⟩
  ((try (conv => whnf)); repeat (first | (refine cndT rfl ?_; (try (conv => whnf))) | (refine cndF rfl ?_; (try (conv => whnf)))))
  refine ⟨by rw [d9]; exact mulOk1 (by decide) (by decide), ?_⟩
  ((try (conv => whnf)); repeat (first | (refine cndT rfl ?_; (try (conv => whnf))) | (refine cndF rfl ?_; (try (conv => whnf)))))
  refine ⟨by rw [d7]; exact mulOk1 (by decide) (by decide), ?_⟩
  ((try (conv => whnf)); repeat (first | (refine cndT rfl ?_; (try (conv => whnf))) | (refine cndF rfl ?_; (try (conv => whnf)))))
  refine ⟨by rw [d1]; exact mulOk1 (by decide) (by decide), ?_⟩
  ((try (conv => whnf)); repeat (first | (refine cndT rfl ?_; (try (conv => whnf))) | (refine cndF rfl ?_; (try (conv => whnf)))))
  refine ⟨by rw [sizeLine_eq, LM]; omega, ?_⟩
  ((try (conv => whnf)); repeat (first | (refine cndT rfl ?_; (try (conv => whnf))) | (refine cndF rfl ?_; (try (conv => whnf)))))
  refine ⟨by show 6 ≤ sizeLine; decide, ?_⟩
  (intro l4 n4; generalize hG : L2.upd _ l4 _ = G4; have s4 := sameOf n4 hG; have e4 := atOf hG; clear hG; ((try (conv => whnf)); repeat (first | (refine cndT rfl ?_; (try (conv => whnf))) | (refine cndF rfl ?_; (try (conv => whnf))))))
  refine .inl ⟨l3, l4, _, _, rfl, rfl, by (repeat (first | assumption | (refine Same.get (by assumption) ?_))), e4, by show 21 ≤ sizeLine; decide, ?_⟩
  (intro l5 n5; generalize hG : L2.upd _ l5 _ = G5; have s5 := sameOf n5 hG; have e5 := atOf hG; clear hG; ((try (conv => whnf)); repeat (first | (refine cndT rfl ?_; (try (conv => whnf))) | (refine cndF rfl ?_; (try (conv => whnf))))))
  have k2 : Kp p H H2 := (Kp.but b1).trans (.but b2)
  refine q [z, Str.ofString "0" ++ z, Str.ofString "+" ++ z, Str.ofString "-" ++ z, Str.ofString " " ++ z, z ++ Str.ofString " ", z ++ Str.ofString "\n",
    cutS z none (some r) ++ (⟨#[c]⟩ : Str) ++ cutS z (some r) none, Str.ofString "", Str.ofString "-", Str.ofString "-0", Str.ofString "0", Str.ofString "00", Str.ofString "1" ++ Txt.mul (Str.ofString "0") 30, Str.ofString "-" ++ Txt.mul (Str.ofString "9") 31,
    cutS z none (some r), Txt.mul (Str.ofString "9") 30, Str.ofString "1_0", Str.ofString "0x1", Txt.mul (Str.ofString "7") 5000, Str.ofString "-" ++ Txt.mul (Str.ofString "1") 19000] l5 G5 ?_ ?_ e5 ?_ ?_
  · show 21 ≤ 100
    decide
  · intro y hy
    simp only [List.mem_cons, List.not_mem_nil, or_false] at hy
    have a1 : ∀ s : Str, s.length = 1 → (s ++ z).length ≤ 20000 := fun s e => by rw [len_app]; omega
    have a2 : ∀ s : Str, s.length = 1 → (z ++ s).length ≤ 20000 := fun s e => by rw [len_app]; omega
    rcases hy with rfl | rfl | rfl | rfl | rfl | rfl | rfl | rfl | rfl | rfl | rfl | rfl | rfl | rfl | rfl | rfl | rfl | rfl | rfl | rfl | rfl
    · omega
    · exact a1 _ rfl
    · exact a1 _ rfl
    · exact a1 _ rfl
    · exact a1 _ rfl
    · exact a2 _ rfl
    · exact a2 _ rfl
    · rw [len_app, e1']; omega
    · decide +kernel
    · decide +kernel
    · decide +kernel
    · decide +kernel
    · decide +kernel
    · rw [len_app, L1]; omega
    · rw [len_app, LM]; omega
    · omega
    · omega
    · decide +kernel
    · decide +kernel
    · omega
    · rw [len_app, LM]; omega
  · obtain ⟨c, x, y, e⟩ := p2
    exact ⟨c, x, y, by (repeat (first | assumption | (refine Same.get (by assumption) ?_)))⟩
  · exact ((((k2.trans (.same s1)).trans (.same s2)).trans (.same s3)).trans (.same s4)).trans (.same s5)
theorem wholeS_kind (z : Str) (lo hi : Int) : wholeS z lo hi = .non ∨ ∃ n, wholeS z lo hi = .int n := by
  unfold wholeS
  split
  · split
    · split
      · exact .inr ⟨_, rfl⟩
      · exact .inl rfl
    · exact .inl rfl
  · exact .inl rfl
theorem same_two {K : PySem.W.Frag} {v : V} {D : Ends} {G2 : Hp} {a0 a1 a2 a3 a4 a5 a6 a7 a8 : Option V} (hv : v = .non ∨ ∃ n, v = .int n) (hd : D.nx [a0, a1, a2, a3, a4, a5, a6, a7, a8, some v, some v] G2) :
    uIf (uOr (tBo (tOp (rNeU K) (tV 9) (tV 10))) (uOr (tTru K (tCB (rIsiU K) (tCons (tV 9) (tCons (tC (V.ty "bool")) tNil)))) (tBo (tOp (rNeU K) (tOp rIsU (tV 9) (tC V.non)) (tOp rIsU (tV 10) (tC V.non)))))) (tRet (tC (V.bl false))) tNext D [a0, a1, a2, a3, a4, a5, a6, a7, a8, some v, some v] G2 := by
  rcases hv with rfl | ⟨n, rfl⟩
  · ((try (conv => whnf)); repeat (first | (refine cndT rfl ?_; (try (conv => whnf))) | (refine cndF rfl ?_; (try (conv => whnf)))))
    refine .inl ⟨rfl, ?_⟩
    ((try (conv => whnf)); repeat (first | (refine cndT rfl ?_; (try (conv => whnf))) | (refine cndF rfl ?_; (try (conv => whnf)))))
    refine isiN (t := "NoneType") (b := false) rfl (by decide +kernel) ?_
    ((try (conv => whnf)); repeat (first | (refine cndT rfl ?_; (try (conv => whnf))) | (refine cndF rfl ?_; (try (conv => whnf)))))
    refine ⟨rfl, ?_⟩
    ((try (conv => whnf)); repeat (first | (refine cndT rfl ?_; (try (conv => whnf))) | (refine cndF rfl ?_; (try (conv => whnf)))))
    refine ⟨rfl, ?_⟩
    ((try (conv => whnf)); repeat (first | (refine cndT rfl ?_; (try (conv => whnf))) | (refine cndF rfl ?_; (try (conv => whnf)))))
    exact hd
  · ((try (conv => whnf)); repeat (first | (refine cndT rfl ?_; (try (conv => whnf))) | (refine cndF rfl ?_; (try (conv => whnf)))))
    (refine cndB (fun c1 => ?_) (fun c1 => ?_) <;> (try simp only [Bool.not_eq_eq_eq_not, Bool.not_true, Bool.not_false, decide_eq_true_eq, decide_eq_false_iff_not, Int.not_le, Int.not_lt] at c1) <;> ((try (conv => whnf)); repeat (first | (refine cndT rfl ?_; (try (conv => whnf))) | (refine cndF rfl ?_; (try (conv => whnf))))))
    · exact absurd trivial c1
    refine isiN (t := "int") (b := false) rfl (by decide +kernel) ?_
    ((try (conv => whnf)); repeat (first | (refine cndT rfl ?_; (try (conv => whnf))) | (refine cndF rfl ?_; (try (conv => whnf)))))
    refine ⟨rfl, ?_⟩
    ((try (conv => whnf)); repeat (first | (refine cndT rfl ?_; (try (conv => whnf))) | (refine cndF rfl ?_; (try (conv => whnf)))))
    refine ⟨rfl, ?_⟩
    ((try (conv => whnf)); repeat (first | (refine cndT rfl ?_; (try (conv => whnf))) | (refine cndF rfl ?_; (try (conv => whnf)))))
    exact hd
theorem pure_law {K a H Q E} (h : P_law K a H Q E) : t_law K E { nx := fun _ H' => Q .non H', rt := Q } [some a, none, none, none, none, none, none, none, none, none, none] H := by
  obtain ⟨p, ns, rfl, hS, hl, q⟩ := h
  left
  refine ⟨_, hS, ?_⟩
  obtain ⟨N, hN, hN2⟩ := cells (ns.map V.int).length 12 (by decide) (by decide)
  refine ⟨_, rfl, ?_, ?_, ?_⟩
  · rw [hN]; omega
  · rw [hN]; omega
  rw [hN]
  refine forR (fun i σ H' => ∃ v1 v2 v3 v4 v5 v6 v7 v8 v9 v10 : Option V, σ = [some (.ref p), v1, v2, v3, v4, v5, v6, v7, v8, v9, v10] ∧ Same H H') ⟨_, _, _, _, _, _, _, _, _, _, rfl, Same.refl _⟩ ?_ ?_
  · rintro i σ H1 hi ⟨v1, v2, v3, v4, v5, v6, v7, v8, v9, v10, rfl, s1⟩
    refine ⟨p, ns, _, rfl, rfl, ?_, ?_, s1.seq hS, fun c x y r H2 hc hr hr2 s2 => ?_⟩
    · show (0 : Int) ≤ 0 + i; omega
    · show (0 : Int) + i ≤ 100; simp at hi; omega
    have s3 := s1.trans s2
    have r0 : H r = none := s1.free hr
    ((try (conv => whnf)); repeat (first | (refine cndT rfl ?_; (try (conv => whnf))) | (refine cndF rfl ?_; (try (conv => whnf)))))
    refine ⟨r, rfl, ⟨_, _, _, hr2⟩, fun n H3 hn p3 k3 => ?_⟩
    ((try (conv => whnf)); repeat (first | (refine cndT rfl ?_; (try (conv => whnf))) | (refine cndF rfl ?_; (try (conv => whnf)))))
    refine ⟨r, rfl, p3, fun far H4 hfar p4 k4 => ?_⟩
    ((try (conv => whnf)); repeat (first | (refine cndT rfl ?_; (try (conv => whnf))) | (refine cndF rfl ?_; (try (conv => whnf)))))
    refine ⟨by show 4 ≤ sizeLine; decide, ?_⟩
    (intro l1 n1; generalize hG : L2.upd _ l1 _ = G1; have t1 := sameOf n1 hG; have e1 := atOf hG; clear hG; ((try (conv => whnf)); repeat (first | (refine cndT rfl ?_; (try (conv => whnf))) | (refine cndF rfl ?_; (try (conv => whnf))))))
    refine ⟨r, 4, rfl, rfl, p4.same t1, by decide, by decide, fun u H5 u0 u1 p5 b5 => ?_⟩
    refine ixIn (SqL.of (b5.at e1 (p4.ne n1))) u0 u1 fun v hv => ?_
    obtain ⟨lo0, rfl⟩ : ∃ m : Int, v = .int m := by
      simp only [List.mem_cons, List.not_mem_nil, or_false] at hv
      rcases hv with rfl | rfl | rfl | rfl <;> exact ⟨_, rfl⟩
    ((try (conv => whnf)); repeat (first | (refine cndT rfl ?_; (try (conv => whnf))) | (refine cndF rfl ?_; (try (conv => whnf)))))
    refine ⟨⟨by decide, by decide, by decide⟩, ?_⟩
    ((try (conv => whnf)); repeat (first | (refine cndT rfl ?_; (try (conv => whnf))) | (refine cndF rfl ?_; (try (conv => whnf)))))
    generalize (if 10 ^ Int.toNat 30 - 1 < lo0 then 10 ^ Int.toNat 30 - 1 else lo0) = lo
    refine ⟨⟨by decide, by decide, by decide⟩, ?_⟩
    ((try (conv => whnf)); repeat (first | (refine cndT rfl ?_; (try (conv => whnf))) | (refine cndF rfl ?_; (try (conv => whnf)))))
    refine ⟨by show 5 ≤ sizeLine; decide, ?_⟩
    (intro l2 n2; generalize hG : L2.upd _ l2 _ = G2; have t2 := sameOf n2 hG; have e2 := atOf hG; clear hG; ((try (conv => whnf)); repeat (first | (refine cndT rfl ?_; (try (conv => whnf))) | (refine cndF rfl ?_; (try (conv => whnf))))))
    refine ⟨r, 5, rfl, rfl, p5.same t2, by decide, by decide, fun u H6 u0 u1 p6 b6 => ?_⟩
    refine ixIn (SqL.of (b6.at e2 (p5.ne n2))) u0 u1 fun v hv => ?_
    obtain ⟨hi, rfl⟩ : ∃ m : Int, v = .int m := by
      simp only [List.mem_cons, List.not_mem_nil, or_false] at hv
      rcases hv with rfl | rfl | rfl | rfl | rfl <;> exact ⟨_, rfl⟩
    clear hv
    have s6 : Same H H6 := ((((((k3.trans k4).trans (.same t1)).trans (.but b5)).trans (.same t2)).trans (.but b6)) H s3 r0)
    left
    ((try (conv => whnf)); repeat (first | (refine cndT rfl ?_; (try (conv => whnf))) | (refine cndF rfl ?_; (try (conv => whnf)))))
    refine ⟨r, n, rfl, rfl, hn, p6, fun zs l3 H7 hz1 hz2 e7 p7 k7 => ?_⟩
    have s7 : Same H H7 := k7 H s6 r0
    ((try (conv => whnf)); repeat (first | (refine cndT rfl ?_; (try (conv => whnf))) | (refine cndF rfl ?_; (try (conv => whnf)))))
    refine .inl ⟨_, SqL.of e7, ?_⟩
    refine forL (SqL.of e7) (fun i σ H' => Same H7 H' ∧ ∃ v1 v4 v7 v8 v9 v10 : Option V, σ = [some (.ref p), v1, some (.ref r), some (.int n), v4, some (.int lo), some (.int hi), v7, v8, v9, v10]) ⟨Same.refl _, _, _, _, _, _, _, rfl⟩ ?_ ?_ ?_
    · rintro i σ H' _ ⟨s, -⟩
      exact SqL.of (s _ _ e7)
    · rintro i x σ H' hx ⟨s, v1, v4, v7, v8, v9, v10, rfl⟩
      obtain ⟨z, hz, rfl⟩ := List.mem_map.mp (List.mem_of_getElem? hx)
      have hzl := hz2 z hz
      ((try (conv => whnf)); repeat (first | (refine cndT rfl ?_; (try (conv => whnf))) | (refine cndF rfl ?_; (try (conv => whnf)))))
      refine ⟨"str", lo, hi, rfl, rfl, rfl, fun z' e => by cases e; exact hzl, fun G1 t1 => ?_⟩
      have t1 := s.trans t1
      refine cutH (fun σ' H' => σ' = [some (.ref p), v1, some (.ref r), some (.int n), v4, some (.int lo), some (.int hi), some (.str z), v8, some (wholeIn (.str z) lo hi), some (wholeIn (.str z) lo hi)] ∧ Same H7 H') ?_ ?_
      · ((try (conv => whnf)); repeat (first | (refine cndT rfl ?_; (try (conv => whnf))) | (refine cndF rfl ?_; (try (conv => whnf)))))
        refine ⟨z, rfl, hzl, fun G2 t2 => ?_⟩
        have t2 := t1.trans t2
        cases hp : plainS z with
        | false =>
          ((try (conv => whnf)); repeat (first | (refine cndT rfl ?_; (try (conv => whnf))) | (refine cndF rfl ?_; (try (conv => whnf)))))
          have e : wholeIn (.str z) lo hi = .non := by show wholeS z lo hi = _; unfold wholeS; rw [hp]; rfl
          rw [e]
          exact ⟨rfl, t2⟩
        | true =>
          obtain ⟨⟨m, hm⟩, h31⟩ := plain_int hp
          have e : wholeIn (.str z) lo hi = if lo ≤ m ∧ m ≤ hi then .int m else .non := by
            show wholeS z lo hi = _
            unfold wholeS
            rw [hp, hm]
            rfl
          rw [e]
          ((try (conv => whnf)); repeat (first | (refine cndT rfl ?_; (try (conv => whnf))) | (refine cndF rfl ?_; (try (conv => whnf)))))
          refine ⟨z, m, rfl, hm, by omega, ?_⟩
          ((try (conv => whnf)); repeat (first | (refine cndT rfl ?_; (try (conv => whnf))) | (refine cndF rfl ?_; (try (conv => whnf)))))
          (refine cndB (fun c1 => ?_) (fun c1 => ?_) <;> (try simp only [Bool.not_eq_eq_eq_not, Bool.not_true, Bool.not_false, decide_eq_true_eq, decide_eq_false_iff_not, Int.not_le, Int.not_lt] at c1) <;> ((try (conv => whnf)); repeat (first | (refine cndT rfl ?_; (try (conv => whnf))) | (refine cndF rfl ?_; (try (conv => whnf))))))
          · (refine cndB (fun c2 => ?_) (fun c2 => ?_) <;> (try simp only [Bool.not_eq_eq_eq_not, Bool.not_true, Bool.not_false, decide_eq_true_eq, decide_eq_false_iff_not, Int.not_le, Int.not_lt] at c2) <;> ((try (conv => whnf)); repeat (first | (refine cndT rfl ?_; (try (conv => whnf))) | (refine cndF rfl ?_; (try (conv => whnf))))))
            · refine ⟨z, m, rfl, hm, by omega, ?_⟩
              rw [if_pos ⟨c1, c2⟩]
              exact ⟨rfl, t2⟩
            · rw [if_neg (by omega)]
              exact ⟨rfl, t2⟩
          · rw [if_neg (by omega)]
            exact ⟨rfl, t2⟩
      · rintro _ G2 ⟨rfl, t2⟩
        exact same_two (wholeS_kind z lo hi) ⟨t2, _, _, _, _, _, _, rfl⟩
    · rintro σ H8 ⟨s, v1, v4, v7, v8, v9, v10, rfl⟩
      ((try (conv => whnf)); repeat (first | (refine cndT rfl ?_; (try (conv => whnf))) | (refine cndF rfl ?_; (try (conv => whnf)))))
      refine ⟨n, rfl, lg (k := 100) (by omega) (by decide), ?_⟩
      ((try (conv => whnf)); repeat (first | (refine cndT rfl ?_; (try (conv => whnf))) | (refine cndF rfl ?_; (try (conv => whnf)))))
      refine ⟨by show 1 ≤ sizeLine; decide, ?_⟩
      (intro m1 j1; generalize hG : L2.upd _ m1 _ = J1; have x1 := sameOf j1 hG; have y1 := atOf hG; clear hG; ((try (conv => whnf)); repeat (first | (refine cndT rfl ?_; (try (conv => whnf))) | (refine cndF rfl ?_; (try (conv => whnf))))))
      refine ⟨n, rfl, lg (k := 100) (by omega) (by decide), ?_⟩
      ((try (conv => whnf)); repeat (first | (refine cndT rfl ?_; (try (conv => whnf))) | (refine cndF rfl ?_; (try (conv => whnf)))))
      refine ⟨by show 1 ≤ sizeLine; decide, ?_⟩
      (intro m2 j2; generalize hG : L2.upd _ m2 _ = J2; have x2 := sameOf j2 hG; have y2 := atOf hG; clear hG; ((try (conv => whnf)); repeat (first | (refine cndT rfl ?_; (try (conv => whnf))) | (refine cndF rfl ?_; (try (conv => whnf))))))
      left
      (intro m3 j3; generalize hG : L2.upd _ m3 _ = J3; have x3 := sameOf j3 hG; have y3 := atOf hG; clear hG; ((try (conv => whnf)); repeat (first | (refine cndT rfl ?_; (try (conv => whnf))) | (refine cndF rfl ?_; (try (conv => whnf))))))
      refine ⟨by show 6 ≤ sizeLine; decide, ?_⟩
      (intro m4 j4; generalize hG : L2.upd _ m4 _ = J4; have x4 := sameOf j4 hG; have y4 := atOf hG; clear hG; ((try (conv => whnf)); repeat (first | (refine cndT rfl ?_; (try (conv => whnf))) | (refine cndF rfl ?_; (try (conv => whnf))))))
      refine .inl ⟨_, SqL.of y4, ?_⟩
      have a1 : J4 m1 = some (HO.lst [V.str (Str.ofString (toString n))]) := by (repeat (first | assumption | (refine Same.get (by assumption) ?_)))
      have a2 : J4 m2 = some (HO.tup [V.str (Str.ofString (toString n))]) := by (repeat (first | assumption | (refine Same.get (by assumption) ?_)))
      have a3 : J4 m3 = some (HO.dK []) := by (repeat (first | assumption | (refine Same.get (by assumption) ?_)))
      have s10 : Same H J4 := ((((s7.trans s).trans x1).trans x2).trans x3).trans x4
      have tys : ∀ v, v ∈ ([V.int n, V.non, V.bl true, V.ref m1, V.ref m2, V.ref m3]) → ∃ t, TyN K J4 v t ∧ wholeIn v lo hi = .non ∧ ∀ z', v = .str z' → z'.length ≤ 20000 := by
        intro v hv
        simp only [List.mem_cons, List.not_mem_nil, or_false] at hv
        rcases hv with rfl | rfl | rfl | rfl | rfl | rfl
        · exact ⟨_, rfl, rfl, fun z' e => by cases e⟩
        · exact ⟨_, rfl, rfl, fun z' e => by cases e⟩
        · exact ⟨_, rfl, rfl, fun z' e => by cases e⟩
        · exact ⟨_, TyN.lst a1, rfl, fun z' e => by cases e⟩
        · exact ⟨_, TyN.tup a2, rfl, fun z' e => by cases e⟩
        · exact ⟨_, TyN.dK a3, rfl, fun z' e => by cases e⟩
      refine forL (SqL.of y4) (fun i σ H' => Same J4 H' ∧ ∃ v1 v2 v3 v4 v7 v8 v9 v10 : Option V, σ = [some (.ref p), v1, v2, v3, v4, some (.int lo), some (.int hi), v7, v8, v9, v10]) ⟨Same.refl _, _, _, _, _, _, _, _, _, rfl⟩ ?_ ?_ ?_
      · rintro i σ H' _ ⟨s, -⟩
        exact SqL.of (s _ _ y4)
      · rintro i x σ H' hx ⟨s, v1, v2, v3, v4, v7, v8, v9, v10, rfl⟩
        obtain ⟨t, ht, hn, hz⟩ := tys x (List.mem_of_getElem? hx)
        ((try (conv => whnf)); repeat (first | (refine cndT rfl ?_; (try (conv => whnf))) | (refine cndF rfl ?_; (try (conv => whnf)))))
        refine ⟨t, lo, hi, ht.mono s, rfl, rfl, hz, fun G7 s11 => ?_⟩
        rw [hn]
        ((try (conv => whnf)); repeat (first | (refine cndT rfl ?_; (try (conv => whnf))) | (refine cndF rfl ?_; (try (conv => whnf)))))
        refine ⟨rfl, ?_⟩
        ((try (conv => whnf)); repeat (first | (refine cndT rfl ?_; (try (conv => whnf))) | (refine cndF rfl ?_; (try (conv => whnf)))))
        exact ⟨s.trans s11, _, _, _, _, _, _, _, _, rfl⟩
      · rintro σ H' ⟨s, v1, v2, v3, v4, v7, v8, v9, v10, rfl⟩
        exact ⟨_, _, _, _, _, _, _, _, _, _, rfl, s10.trans s⟩
  · rintro σ H' ⟨v1, v2, v3, v4, v5, v6, v7, v8, v9, v10, rfl, s1⟩
    exact q H'

end Wk02
namespace Wk02
open PySem L2 PySem.Spec PyProof.Rows Rf
def top (i : Nat) : Stmt := PySem.Challenge.pw_evencut_k02_numbers_written.main.body.getD i (.Pass ⟨0, 0, 0, 0⟩)
def d_l_pool : He.DefD := ⟨("_law_pool", none), "_law_pool", "_law_pool", defArgs (top 6), defBody (top 6), defScope (top 6), [], []⟩
def d_l_take : He.DefD := ⟨("_law_take", none), "_law_take", "_law_take", defArgs (top 7), defBody (top 7), defScope (top 7), [], []⟩
def d_l_figures : He.DefD := ⟨("_law_figures", none), "_law_figures", "_law_figures", defArgs (top 8), defBody (top 8), defScope (top 8), [], []⟩
def d_l_number : He.DefD := ⟨("_law_number", none), "_law_number", "_law_number", defArgs (top 9), defBody (top 9), defScope (top 9), [], []⟩
def d_l_texts : He.DefD := ⟨("_law_texts", none), "_law_texts", "_law_texts", defArgs (top 11), defBody (top 11), defScope (top 11), [], []⟩
def d_is_plain : He.DefD := ⟨("is_plain", none), "is_plain", "is_plain", defArgs (top 3), defBody (top 3), defScope (top 3), [], []⟩
def d_whole_in : He.DefD := ⟨("whole_in", none), "whole_in", "whole_in", defArgs (top 4), defBody (top 4), defScope (top 4), [], []⟩
def d_l_plain : He.DefD := ⟨("_law_plain", none), "_law_plain", "_law_plain", defArgs (top 10), defBody (top 10), defScope (top 10), [], []⟩
def d_law : He.DefD := ⟨("law", none), "law", "law", defArgs (top 12), defBody (top 12), defScope (top 12), [], []⟩
def fn : List He.DefD := [d_l_pool, d_l_take, d_l_figures, d_l_number, d_l_texts, d_is_plain, d_whole_in, d_l_plain, d_law]
def fa : List He.Fa := ([.glo "_law_pool", .free "len", .free "abs", .glo "_law_take", .glo "_law_figures", .free "range", .glo "_law_number", .glo "_law_texts", .free "str", .glo "is_plain", .str "FIGURES" "0123456789", .free "all", .int "MOST_FIGURES" 30, .glo "whole_in", .free "isinstance", .free "int", .glo "_law_plain", .glo "law", .free "min", .free "max", .free "bool"] : List He.Fa)
section
variable {P : Program} {w : World} {K : PySem.W.Frag} {h : Heap} {mg : Str → Option Value} {base : Heap}
theorem fk_l_pool (X : K.In h) (G : h.Ns mainGlobals mg) (c : He.SaysD fa fn K) : FnC P w K mg base "_law_pool" 1 (sp_l_pool K) [] :=
  def_fn (N := ["_law_script", "_law_k", "_law_cell", "_law_first"]) (ps := ["_law_script", "_law_k"]) (G := [("len", .bl), ("abs", .bl)]) (M := []) (t := t_l_pool K) (c.def_ 0 (d := d_l_pool) (by rfl)) (He.glo_ok X G (c.fact 0 (by rfl))) (by decide +kernel) 60 (fun vs H Q E h => match vs, h with | [_, _], _ => rfl) (fun _ => by kernel_rfl) (fun vs H Q E h => match vs, h with | [a0, a1], h => pure_l_pool h) ⟨He.free_ok X G (c.fact 1 (by rfl)), He.free_ok X G (c.fact 2 (by rfl)), trivial⟩ trivial (fun _ _ _ _ _ _ us hl => match us, hl with | [_, _], _ => rfl)
theorem fk_l_take (X : K.In h) (G : h.Ns mainGlobals mg) (c : He.SaysD fa fn K) : FnC P w K mg base "_law_take" 1 (sp_l_take K) [] :=
  def_fn (N := ["_law_pool_here", "_law_m", "_law_found"]) (ps := ["_law_pool_here", "_law_m"]) (G := []) (M := []) (t := t_l_take K) (c.def_ 1 (d := d_l_take) (by rfl)) (He.glo_ok X G (c.fact 3 (by rfl))) (by decide +kernel) 60 (fun vs H Q E h => match vs, h with | [_, _], _ => rfl) (fun _ => by kernel_rfl) (fun vs H Q E h => match vs, h with | [a0, a1], h => pure_l_take h) trivial trivial (fun _ _ _ _ _ _ us hl => match us, hl with | [_, _], _ => rfl)
theorem fk_l_figures (X : K.In h) (G : h.Ns mainGlobals mg) (c : He.SaysD fa fn K) : FnC P w K mg base "_law_figures" 2 (sp_l_figures K) [] :=
  def_fn (N := ["_law_pool_here", "_law_many", "_law_number_here", "_law_k"]) (ps := ["_law_pool_here", "_law_many"]) (G := [("range", .bl), ("_law_take", .fn (sp_l_take K) [])]) (M := []) (t := t_l_figures K) (c.def_ 2 (d := d_l_figures) (by rfl)) (He.glo_ok X G (c.fact 4 (by rfl))) (by decide +kernel) 60 (fun vs H Q E h => match vs, h with | [_, _], _ => rfl) (fun _ => by kernel_rfl) (fun vs H Q E h => match vs, h with | [a0, a1], h => pure_l_figures h) ⟨He.free_ok X G (c.fact 5 (by rfl)), ⟨1, by decide, fk_l_take X G c⟩, trivial⟩ trivial (fun _ _ _ _ _ _ us hl => match us, hl with | [_, _], _ => rfl)
theorem fk_l_number (X : K.In h) (G : h.Ns mainGlobals mg) (c : He.SaysD fa fn K) : FnC P w K mg base "_law_number" 3 (sp_l_number K) [] :=
  def_fn (N := ["_law_pool_here", "_law_number_here"]) (ps := ["_law_pool_here"]) (G := [("_law_take", .fn (sp_l_take K) []), ("_law_figures", .fn (sp_l_figures K) [])]) (M := []) (t := t_l_number K) (c.def_ 3 (d := d_l_number) (by rfl)) (He.glo_ok X G (c.fact 6 (by rfl))) (by decide +kernel) 60 (fun vs H Q E h => match vs, h with | [_], _ => rfl) (fun _ => by kernel_rfl) (fun vs H Q E h => match vs, h with | [a0], h => pure_l_number h) ⟨⟨1, by decide, fk_l_take X G c⟩, ⟨2, by decide, fk_l_figures X G c⟩, trivial⟩ trivial (fun _ _ _ _ _ _ us hl => match us, hl with | [_], _ => rfl)
theorem fk_l_texts (X : K.In h) (G : h.Ns mainGlobals mg) (c : He.SaysD fa fn K) : FnC P w K mg base "_law_texts" 2 (sp_l_texts K) [] :=
  def_fn (N := ["_law_pool_here", "_law_number_here", "_law_text", "_law_at", "_law_sign", "_law_texts_here"]) (ps := ["_law_pool_here", "_law_number_here"]) (G := [("str", .bl), ("len", .bl), ("_law_take", .fn (sp_l_take K) [])]) (M := []) (t := t_l_texts K) (c.def_ 4 (d := d_l_texts) (by rfl)) (He.glo_ok X G (c.fact 7 (by rfl))) (by decide +kernel) 60 (fun vs H Q E h => match vs, h with | [_, _], _ => rfl) (fun _ => by kernel_rfl) (fun vs H Q E h => match vs, h with | [a0, a1], h => pure_l_texts h) ⟨He.free_ok X G (c.fact 8 (by rfl)), He.free_ok X G (c.fact 1 (by rfl)), ⟨1, by decide, fk_l_take X G c⟩, trivial⟩ trivial (fun _ _ _ _ _ _ us hl => match us, hl with | [_, _], _ => rfl)
theorem fk_is_plain (X : K.In h) (G : h.Ns mainGlobals mg) (c : He.SaysD fa fn K) : FnC P w K mg base "is_plain" 1 (sp_is_plain K) [] :=
  def_fn (N := ["text", "figures", "sign"]) (ps := ["text"]) (G := [("FIGURES", .con (.str "0123456789")), ("all", .bl), ("len", .bl), ("MOST_FIGURES", .con (.int 30))]) (M := []) (t := t_is_plain K) (c.def_ 5 (d := d_is_plain) (by rfl)) (He.glo_ok X G (c.fact 9 (by rfl))) (by decide +kernel) 60 (fun vs H Q E h => match vs, h with | [_], _ => rfl) (fun _ => by kernel_rfl) (fun vs H Q E h => match vs, h with | [a0], h => pure_is_plain h) ⟨(let ⟨t, e⟩ := He.str_ok X G (c.fact 10 (by rfl)); ⟨_, e, ⟨t, rfl⟩⟩), He.free_ok X G (c.fact 11 (by rfl)), He.free_ok X G (c.fact 1 (by rfl)), (let ⟨t, e⟩ := He.int_ok X G (c.fact 12 (by rfl)); ⟨_, e, ⟨t, rfl⟩⟩), trivial⟩ trivial (fun _ _ _ _ _ _ us hl => match us, hl with | [_], _ => rfl)
theorem fk_whole_in (X : K.In h) (G : h.Ns mainGlobals mg) (c : He.SaysD fa fn K) : FnC P w K mg base "whole_in" 2 (sp_whole_in K) [] :=
  def_fn (N := ["thing", "low", "high", "number"]) (ps := ["thing", "low", "high"]) (G := [("is_plain", .fn (sp_is_plain K) []), ("str", .bl), ("isinstance", .bl), ("int", .bl)]) (M := []) (t := t_whole_in K) (c.def_ 6 (d := d_whole_in) (by rfl)) (He.glo_ok X G (c.fact 13 (by rfl))) (by decide +kernel) 60 (fun vs H Q E h => match vs, h with | [_, _, _], _ => rfl) (fun _ => by kernel_rfl) (fun vs H Q E h => match vs, h with | [a0, a1, a2], h => pure_whole_in h) ⟨⟨1, by decide, fk_is_plain X G c⟩, He.free_ok X G (c.fact 8 (by rfl)), He.free_ok X G (c.fact 14 (by rfl)), He.free_ok X G (c.fact 15 (by rfl)), trivial⟩ trivial (fun _ _ _ _ _ _ us hl => match us, hl with | [_, _, _], _ => rfl)
theorem fk_l_plain (X : K.In h) (G : h.Ns mainGlobals mg) (c : He.SaysD fa fn K) : FnC P w K mg base "_law_plain" 1 (sp_l_plain K) [] :=
  def_fn (N := ["_law_text", "_law_figures_here", "_law_sign"]) (ps := ["_law_text"]) (G := [("len", .bl), ("all", .bl)]) (M := []) (t := t_l_plain K) (c.def_ 7 (d := d_l_plain) (by rfl)) (He.glo_ok X G (c.fact 16 (by rfl))) (by decide +kernel) 60 (fun vs H Q E h => match vs, h with | [_], _ => rfl) (fun _ => by kernel_rfl) (fun vs H Q E h => match vs, h with | [a0], h => pure_l_plain h) ⟨He.free_ok X G (c.fact 1 (by rfl)), He.free_ok X G (c.fact 11 (by rfl)), trivial⟩ trivial (fun _ _ _ _ _ _ us hl => match us, hl with | [_], _ => rfl)
theorem fk_law_ok (X : K.In h) (G : h.Ns mainGlobals mg) (c : He.SaysD fa fn K) {fd : FuncData} (F : FunD K d_law.name d_law.qual d_law.params d_law.body d_law.scope (d_law.dvs K) (d_law.kws K) (He.fAd K d_law.at_) fd) : FnOk P w K mg base (L2.CX P w) 4 (He.ga K "law") fd ["_law_script"] (sp_law K) :=
  def_ok (N := ["_law_script", "_law_k", "_law_pool_here", "_law_number_here", "_law_far", "_law_low", "_law_high", "_law_text", "_law_thing", "_law_found", "_law_due"]) (ps := ["_law_script"]) (G := [("range", .bl), ("len", .bl), ("min", .bl), ("max", .bl), ("_law_pool", .fn (sp_l_pool K) []), ("_law_number", .fn (sp_l_number K) []), ("_law_take", .fn (sp_l_take K) []), ("_law_texts", .fn (sp_l_texts K) []), ("whole_in", .fn (sp_whole_in K) []), ("int", .bl), ("_law_plain", .fn (sp_l_plain K) []), ("bool", .bl), ("isinstance", .bl), ("str", .bl)]) (M := []) (t := t_law K) F (by decide +kernel) 60 (fun vs H Q E h => match vs, h with | [_], _ => rfl) (fun _ => by kernel_rfl) (fun vs H Q E h => match vs, h with | [a0], h => pure_law h) ⟨He.free_ok X G (c.fact 5 (by rfl)), He.free_ok X G (c.fact 1 (by rfl)), He.free_ok X G (c.fact 18 (by rfl)), He.free_ok X G (c.fact 19 (by rfl)), ⟨1, by decide, fk_l_pool X G c⟩, ⟨3, by decide, fk_l_number X G c⟩, ⟨1, by decide, fk_l_take X G c⟩, ⟨2, by decide, fk_l_texts X G c⟩, ⟨2, by decide, fk_whole_in X G c⟩, He.free_ok X G (c.fact 15 (by rfl)), ⟨1, by decide, fk_l_plain X G c⟩, He.free_ok X G (c.fact 20 (by rfl)), He.free_ok X G (c.fact 14 (by rfl)), He.free_ok X G (c.fact 8 (by rfl)), trivial⟩ trivial
theorem facts {f : Addr} (X : K.In h) (G : h.Ns mainGlobals mg) (hfa : mg ("law" : Str) = some (.ref f)) (c : He.SaysD fa fn K) :
    ∃ fd : FuncData, (∀ (s : Shared) (v : Value), BindsTo s fd ⟨[v], []⟩ [("_law_script", v)]) ∧ ∀ base : Heap, K.In base → base.Ns mainGlobals mg → FnOk P w K mg base (L2.CX P w) 4 f fd ["_law_script"] (sp_law K) := by
  obtain ⟨fd, F⟩ := c.def_ 8 (d := d_law) (by rfl)
  have e := hfa.symm.trans (He.glo_ok X G (c.fact 17 (f := .glo "law") (by rfl)))
  cases e
  have b := FunD.bindsA (ps := ["_law_script"]) F fun _ _ _ _ _ _ us hl => match us, hl with | [_], _ => rfl
  exact ⟨fd, fun s v => b s [v] rfl, fun base _ _ => fk_law_ok X G c F⟩
end
abbrev R : PySem.W.OpenRow := PySem.W.OpenLaw.row PySem.Challenge.rw_evencut_k02_numbers_written
abbrev hk : PySem.W.Hook := He.hookD 6 fa fn
def ob (s : PySem.W.SharedT) : He.AlD := He.obsDG 6 fa fn (HandSHeadRun.getT s)
theorem ob_eq (s : PySem.W.SharedT) : ob s = hk.obs s.abs := He.obsDG_eq (HandSHeadRun.getT_eq s)
def loose : List PySem.Str := (["FIGURES", "MOST_FIGURES", "is_plain", "whole_in", "_law_pool", "_law_take", "_law_figures", "_law_number", "_law_plain", "_law_texts"] : List PySem.Str)
def STEPS : Nat := 4000
theorem run (w : World) : HandSHeadRun.RunEq R (PySem.W.view R.prog [12]) hk ob STEPS loose w := by
  intro os
  kernel_rfl
end Wk02
open PySem PySem.W PySem.Calls PyProof.Rows
set_option maxHeartbeats 0 in
theorem PySem.Challenge.cw_evencut_k02_numbers_written_holds : PySem.Challenge.rw_evencut_k02_numbers_written.Holds := by
  w_on; o_law
  refine HandSHeadRun.head_any (r := OpenLaw.row PySem.Challenge.rw_evencut_k02_numbers_written) (q := view (OpenLaw.row PySem.Challenge.rw_evencut_k02_numbers_written).prog [12]) (H := Wk02.hk) (ob := Wk02.ob) (M := Wk02.STEPS) (loose := Wk02.loose) (d := HandSHeadRun.topDef (OpenLaw.row PySem.Challenge.rw_evencut_k02_numbers_written).prog 12) (kwd := []) Wk02.ob_eq
    (by kernel_rfl) (fun s => by kernel_rfl) Wk02.run (by kernel_rfl) (by kernel_rfl) (by kernel_rfl) (by rfl) (by first | assumption | decide +kernel) (by decide +kernel) ⟨rfl, rfl, rfl, rfl, rfl, by decide +kernel⟩ ?hw ?hc
  case hw => w_witness2
  case hc =>
    refine Rf.walk_ofW (l := PySem.Challenge.rw_evencut_k02_numbers_written) (n := 63) (k := 4) (x := "_law_script") rfl (by decide) (by kernel_rfl) ⟨rfl, by decide, by decide⟩ ?F
    intro w mg fa h Y G hmg0
    obtain ⟨K, KX, c⟩ := Y
    have hmg : mg ("law" : PySem.Str) = some (.ref fa) := by
      have e : (HandSHeadRun.topDef (OpenLaw.row PySem.Challenge.rw_evencut_k02_numbers_written).prog 12).name = ("law" : PySem.Str) := by kernel_rfl
      rw [← e]
      exact hmg0
    obtain ⟨fd, hb, hF⟩ := Wk02.facts (P := (PySem.Challenge.rw_evencut_k02_numbers_written).prog) (w := w) KX G hmg c
    exact ⟨K, fd, Wk02.sp_law K, KX, hb, fun H a ns hl _ hS => ⟨a, ns, rfl, hS, hl, fun _ => rfl⟩, hF⟩
