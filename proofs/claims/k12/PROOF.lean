import PyProof.Rows.All
import Wide.All
import OpenK.AllK
import Wide.FinOn
import HandS.ForMost
import HandS.Exc
import HandS.WordsExc
import HandS.Wide
import HandS.IsInst
import HandS.Defaults
import HandS.Walk
import HandS.TupLen
import HandS.DictTup
import HandS.DictComp
import HandS.Conv
import HandS.More
import HandS.SetKeys
import HandS.Style
import PyProof.NeKinds
import PyProof.EqAt
import HandS.HeadEnd
import HandS.HeadHook2
import HandS.Head2
import KE.KDictWalk
import HandS.ListItems
import PyProof.Draws
import PyProof.SumWalkG
import HandS.ExcOwn
import HandS.CallSlots
import HandS.ExcInit
import KE.KExcIs
import HandS.ExcIs
import HandS.ExcField
import HandS.HotCalls
import HandS.ExcInitHot
import HandS.Sort
import HandS.SortInts
import HandS.Text
import HandS.Dict
import HandS.HeadHook4
import PySem.Challenge.RW_evencut_k12_deeds_refused
set_option Elab.async false
set_option linter.all false
set_option maxRecDepth 100000
set_option maxHeartbeats 4000000
/-! A body's reading computed from its syntax, once for all: cE, cT, cA, cS, cSs, and that they are right. -/
namespace Rf
open PySem L2 PySem.Spec PyProof.Rows

/-! ### syntax that asks nothing more -/
def noStar : Expr → Bool
  | .Starred .. => false
  | _ => true
theorem star_cons {e : Expr} {es : List Expr} {env : Env} (h : noStar e = true) : starEach (e :: es) env = (false, eval e env) :: starEach es env := by
  cases e <;> first | rfl | cases h
theorem star_none {pos : Pos} {env : Env} : ∀ {es : List Expr}, es.all noStar = true → (backTo pos (starEach es env)).any (·.1) = false
  | [], _ => rfl
  | e :: es, h => by
    obtain ⟨h1, h2⟩ := Bool.and_eq_true_iff.mp (show (noStar e && es.all noStar) = true from h)
    rw [star_cons h1]
    show (false || (backTo pos (starEach es env)).any (·.1)) = false
    rw [star_none h2]
    rfl
def noComp : Expr → Bool
  | .ListComp .. => false
  | .SetComp .. => false
  | .DictComp .. => false
  | _ => true
theorem swaps_no {e : Expr} {t : Option Expr} {l : Nat} {env : Env} (h : noComp e = true) : swapsWith e t l env = pure false := by
  cases e <;> first | rfl | cases h
def noSup : Expr → Bool
  | .Call (.Name id _) [] [] _ => id != "super"
  | _ => true
theorem base_no {o : Expr} {a : Str} {env : Env} {w : Sem Value} (h : noSup o = true) : attributeBase o a env w = w := by
  unfold attributeBase
  split
  · have h' : (_ != _) = true := h
    rw [h']
    rfl
  · rfl
def noSlice : Expr → Bool
  | .Slice .. => false
  | _ => true
theorem ix_no {b : Expr} (h : noSlice b = true) : ∀ o i, subscripted b false o i = operate [o, i] (getItem o i) := fun o i => by
  cases b <;> first | rfl | cases h
def noSet : Expr → Bool
  | .Set .. => false
  | _ => true
theorem mark_no {op : CmpOp} {b : Expr} (h : noSet b = true) : behindInMarks op b = false := by
  cases b <;> first | rfl | cases h
theorem fold_no {i : Expr} {env : Env} (h : noSet i = true) : ∀ x, foldedSetIterable i env x = pure x := fun x => by
  cases i <;> first | rfl | cases h
def noBool : Expr → Bool
  | .UnaryOp .. => false
  | .BoolOp .. => false
  | .IfExp .. => false
  | .Compare .. => false
  | _ => true
theorem true_no {a : Expr} {env : Env} (h : noBool a = true) : ∀ whole, isTrue a env whole = (do let v ← whole; standAt a.pos; holding [v] (truthy v)) := fun w => by
  cases a <;> first | rfl | cases h

/-! ### rules for one operation, several kinds -/
theorem callOr {X : Cx} {f : Value} {r r' : List V → Hp → VK → Prop} (h : CallR X f r) (h' : CallR X f r') : CallR X f (fun x H Q => r x H Q ∨ r' x H Q) := by
  intro pins s σ H xs us Q I rx q
  rcases q with q | q
  · exact h pins s σ H xs us Q I rx q
  · exact h' pins s σ H xs us Q I rx q
theorem psOr {X : Cx} {st : Stmt} {t u : TS} (h : PS X st t) (h' : PS X st u) : PS X st (fun D σ H => t D σ H ∨ u D σ H) := ⟨fun pins s σ H D I q => q.elim (h.run pins s σ H D I) (h'.run pins s σ H D I)⟩
theorem peOr {X : Cx} {e : Expr} {t u : TE} (h : PE X e t) (h' : PE X e u) : PE X e (fun σ H Q => t σ H Q ∨ u σ H Q) := ⟨fun pins s σ H Q I q => q.elim (h.run pins s σ H Q I) (h'.run pins s σ H Q I)⟩
theorem piOr {X : Cx} {tg e : Expr} {t u : TI} (h : PI X tg e t) (h' : PI X tg e u) : PI X tg e (fun σ H Q => t σ H Q ∨ u σ H Q) := ⟨fun pins s σ H Q I q => q.elim (h.run pins s σ H Q I) (h'.run pins s σ H Q I)⟩

/-- the one or the other, by a truth -/
@[irreducible] def cnd (b : Bool) (A B : Prop) : Prop := match b with
  | true => A
  | false => B
theorem cnd_t {A B : Prop} : cnd true A B = A := by unfold cnd; rfl
theorem cnd_f {A B : Prop} : cnd false A B = B := by unfold cnd; rfl
theorem of_t {A B : Prop} (h : cnd true A B) : A := by rw [cnd_t] at h; exact h
theorem of_f {A B : Prop} (h : cnd false A B) : B := by rw [cnd_f] at h; exact h
theorem cndT {b : Bool} {A B : Prop} (e : b = true) (h : A) : cnd b A B := by rw [e, cnd_t]; exact h
theorem cndF {b : Bool} {A B : Prop} (e : b = false) (h : B) : cnd b A B := by rw [e, cnd_f]; exact h
theorem cndB {b : Bool} {A B : Prop} (h1 : b = true → A) (h2 : b = false → B) : cnd b A B := by
  cases b with
  | true => rw [cnd_t]; exact h1 rfl
  | false => rw [cnd_f]; exact h2 rfl
theorem cndD {p : Prop} {_ : Decidable p} {A B : Prop} (h1 : p → A) (h2 : ¬ p → B) : cnd (decide p) A B := cndB (fun h => h1 (of_decide_eq_true h)) (fun h => h2 (of_decide_eq_false h))
theorem cndN {p : Prop} {_ : Decidable p} {A B : Prop} (h1 : ¬ p → A) (h2 : p → B) : cnd (!decide p) A B := cndB (fun h => h1 (by simpa using h)) (fun h => h2 (by simpa using h))
section
variable {X : Cx} {a b c : Expr} {ta tb tc : TE} {t u : TT} {pos : Pos}
def uIf (c : TT) (t u : TS) : TS := fun D σ H => c σ H fun b H1 => cnd b (t D σ H1) (u D σ H1)
theorem ps_ifU {c : Expr} {a b : List Stmt} {tc : TT} {t u : TS} (hc : PT X c tc) (ha : PSs X a t) (hb : PSs X b u) : PS X (.If c a b pos) (uIf tc t u) := by
  refine ⟨fun pins s σ H D I h => ?_⟩
  refine wpAny_If (thn (hc.run pins s σ H _ I h) fun d s1 ⟨H1, I1, q1⟩ => ?_)
  cases d with
  | true => exact ha.run pins s1 σ H1 D I1 (of_t q1)
  | false => exact hb.run pins s1 σ H1 D I1 (of_f q1)
def uIfE (t : TT) (ta tb : TE) : TE := fun σ H Q => t σ H fun c H1 => cnd c (ta σ H1 Q) (tb σ H1 Q)
theorem pe_ifU (hc : PT X c t) (ha : PE X a ta) (hb : PE X b tb) : PE X (.IfExp c a b pos) (uIfE t ta tb) := by
  refine ⟨fun pins s σ H Q I h => ?_⟩
  refine wpAny_IfExp (thn (hc.run pins s σ H _ I h) fun d s1 ⟨H1, I1, q1⟩ => ?_)
  cases d with
  | true => exact ha.run pins s1 σ H1 Q I1 (of_t q1)
  | false => exact hb.run pins s1 σ H1 Q I1 (of_f q1)
def uAnd (t u : TT) : TT := fun σ H Q => t σ H fun c H1 => cnd c (u σ H1 Q) (Q false H1)
def uOr (t u : TT) : TT := fun σ H Q => t σ H fun c H1 => cnd c (Q true H1) (u σ H1 Q)
theorem pw_andU {rest : List Expr} (ha : PT X a t) (hb : PW X (.BoolOp .And (b :: rest) pos) u) : PW X (.BoolOp .And (a :: b :: rest) pos) (uAnd t u) := by
  refine ⟨fun wh pins s σ H Q I h => ?_⟩
  refine isTrue_and (thn (ha.run pins s σ H _ I h) fun c s1 ⟨H1, I1, q1⟩ => ?_)
  cases c with
  | true => exact hb.run wh pins s1 σ H1 Q I1 (of_t q1)
  | false => exact ⟨H1, I1, of_f q1⟩
theorem pw_orU {rest : List Expr} (ha : PT X a t) (hb : PW X (.BoolOp .Or (b :: rest) pos) u) : PW X (.BoolOp .Or (a :: b :: rest) pos) (uOr t u) := by
  refine ⟨fun wh pins s σ H Q I h => ?_⟩
  refine isTrue_or (thn (ha.run pins s σ H _ I h) fun c s1 ⟨H1, I1, q1⟩ => ?_)
  cases c with
  | true => exact ⟨H1, I1, of_t q1⟩
  | false => exact hb.run wh pins s1 σ H1 Q I1 (of_f q1)
end
/-- binary operators, by the values' kinds -/
def rAddU (K : PySem.W.Frag) : R2 := fun x y H Q => match x, y with
  | .int i, .int j => Q (.int (i + j)) H
  | .str i, .str j => i.length + j.length ≤ sizeLine ∧ Q (.str (i ++ j)) H
  | x, y => rCat x y H Q ∨ rCatT K x y H Q
def rSubU : R2 := fun x y H Q => match x, y with
  | .int i, .int j => Q (.int (i - j)) H
  | _, _ => False
/-- a small factor, or both not too great -/
def CMulU (i j : Int) : Prop := CMul i j ∨ CMulW i j
theorem op_mulS {X : Cx} : OpR X (binaryOp .Mult) (fun x y H Q => ∃ z n, x = .str z ∧ y = .int n ∧ MulOk z n ∧ Q (.str (Txt.mul z n)) H) := by
  intro pins s σ H x y v u Q I rx ry h
  obtain ⟨i, j, rfl, rfl, hz, q⟩ := h
  obtain ⟨t, rfl⟩ := rx
  obtain ⟨t', rfl⟩ := ry
  exact SB.mul hz (fun t' tk => ⟨.str (Txt.mul i j), H, I.tok _, ⟨_, rfl⟩, q⟩)
def rMulU : R2 := fun x y H Q => match x, y with
  | .int i, .int j => CMulU i j ∧ Q (.int (i * j)) H
  | .str z, .int n => MulOk z n ∧ Q (.str (Txt.mul z n)) H
  | x, y => rRep x y H Q
def rDivU : R2 := fun x y H Q => match x, y with
  | .int i, .int j => CDivW i j ∧ Q (.int (i / j)) H
  | _, _ => False
def rModU : R2 := fun x y H Q => match x, y with
  | .int i, .int j => 0 < j ∧ Q (.int (i % j)) H
  | _, _ => False
def rPowU : R2 := fun x y H Q => match x, y with
  | .int i, .int j => CPow i j ∧ Q (.int (i ^ j.toNat)) H
  | _, _ => False
def rBin (K : PySem.W.Frag) : Operator → Option R2
  | .Add => some (rAddU K)
  | .Sub => some rSubU
  | .Mult => some rMulU
  | .FloorDiv => some rDivU
  | .Mod => some rModU
  | .Pow => some rPowU
  | _ => none
theorem opMono {X : Cx} {f : Value → Value → Sem Value} {r r' : R2} (h : OpR X f r) (i : ∀ x y H Q, r' x y H Q → r x y H Q) : OpR X f r' := fun pins s σ H x y v u Q I rx ry q => h pins s σ H x y v u Q I rx ry (i x y H Q q)
/-- two ints, or another rule -/
theorem int2 {P : V → V → Prop} {x y : V} (h1 : ∀ i j, P (.int i) (.int j)) (h2 : (∀ i j, ¬ (x = .int i ∧ y = .int j)) → P x y) : P x y := by
  by_cases h : ∃ i j, x = .int i ∧ y = .int j
  · obtain ⟨i, j, rfl, rfl⟩ := h
    exact h1 i j
  · exact h2 fun i j e => h ⟨i, j, e⟩
theorem rBin_ok {X : Cx} {op : Operator} {r : R2} (h : rBin X.K op = some r) : OpR X (binaryOp op) r := by
  cases op <;> first | cases h | (have e := Option.some.inj h; subst e)
  · refine opMono (op_add.or (op_add_str.or (op_cat.or op_catT))) fun x y H Q q => ?_
    unfold rAddU at q
    split at q
    · exact .inl ⟨_, _, rfl, rfl, q⟩
    · exact .inr (.inl ⟨_, _, rfl, rfl, q.1, q.2⟩)
    · exact .inr (.inr q)
  · refine opMono op_sub fun x y H Q q => ?_
    unfold rSubU at q
    split at q
    · exact ⟨_, _, rfl, rfl, q⟩
    · exact q.elim
  · refine opMono (op_mul.or (op_mulW.or (op_mulS.or op_rep))) fun x y H Q q => ?_
    unfold rMulU at q
    split at q
    · rcases q.1 with c | c
      · exact .inl ⟨_, _, rfl, rfl, c, q.2⟩
      · exact .inr (.inl ⟨_, _, rfl, rfl, c, q.2⟩)
    · exact .inr (.inr (.inl ⟨_, _, rfl, rfl, q⟩))
    · exact .inr (.inr (.inr q))
  · refine opMono op_mod fun x y H Q q => ?_
    unfold rModU at q
    split at q
    · exact ⟨_, _, rfl, rfl, q.1, q.2⟩
    · exact q.elim
  · refine opMono op_pow fun x y H Q q => ?_
    unfold rPowU at q
    split at q
    · exact ⟨_, _, rfl, rfl, q.1, q.2⟩
    · exact q.elim
  · refine opMono op_fdivW fun x y H Q q => ?_
    unfold rDivU at q
    split at q
    · exact ⟨_, _, rfl, rfl, q.1, q.2⟩
    · exact q.elim
/-- in place -/
def rIAddU : R2 := fun x y H Q => match x, y with
  | .int i, .int j => Q (.int (i + j)) H
  | .str i, .str j => i.length + j.length ≤ sizeLine ∧ Q (.str (i ++ j)) H
  | _, _ => False
def rAug (K : PySem.W.Frag) : Operator → Option R2
  | .Add => some rIAddU
  | .Sub => some rSubU
  | _ => none
theorem rAug_ok {X : Cx} {op : Operator} {r : R2} (h : rAug X.K op = some r) : OpR X (inplaceOp op) r := by
  cases op <;> first | cases h | (have e := Option.some.inj h; subst e)
  · refine opMono (iop_add.or iop_add_str) fun x y H Q q => ?_
    unfold rIAddU at q
    split at q
    · exact .inl ⟨_, _, rfl, rfl, q⟩
    · exact .inr ⟨_, _, rfl, rfl, q.1, q.2⟩
    · exact q.elim
  · refine opMono iop_sub fun x y H Q q => ?_
    unfold rSubU at q
    split at q
    · exact ⟨_, _, rfl, rfl, q⟩
    · exact q.elim
/-! comparisons -/
/-- two dicts: of unlike sizes, or the one's entries the other's -/
def DSame (x y : V) (H : Hp) (r : Bool) : Prop := ∃ a b ks ls, x = .ref a ∧ y = .ref b ∧ H a = some (.dK ks) ∧ H b = some (.dK ls) ∧ ((ks.length ≠ ls.length ∧ r = false) ∨ (ks.length = ls.length ∧ (∀ p ∈ ks, valV ls p.1 = some p.2 ∧ flatB p.2 = true) ∧ r = true))
theorem op_eq_dictU {X : Cx} (hu : X.A.units < cLine) : OpR X (compareOp .Eq) (fun x y H Q => ∃ r, DSame x y H r ∧ Q (.bl r) H) := by
  intro pins s σ H x y v u Q I rx ry h
  obtain ⟨r, ⟨a, b, ks, ls, rfl, rfl, ea, eb, h⟩, q⟩ := h
  obtain rfl : v = Value.ref a := rx
  obtain rfl : u = Value.ref b := ry
  obtain ⟨_, ya, va, ra, da⟩ := (show ObjOk X.prog X.w H s.heap a (.dK ks) from I.hok a _ ea)
  obtain ⟨_, yb, vb, rb, db⟩ := (show ObjOk X.prog X.w H s.heap b (.dK ls) from I.hok b _ eb)
  rcases h with ⟨hlen, rfl⟩ | ⟨hlen, hp, rfl⟩
  · have hl : va.length ≠ vb.length := by rw [← ra.length, ← rb.length]; exact hlen
    exact PySem.W.keq_eq (knd := mixKind X.prog X.w) (r := true) ya yb da db hu (fun z => absurd z hl) (fin_bl I q (by simp [hl]))
  · have hl : va.length = vb.length := by rw [← ra.length, ← rb.length]; exact hlen
    exact PySem.W.keq_eq (knd := mixKind X.prog X.w) (r := true) ya yb da db hu (fun _ => hits_all rb ra hp) (fin_bl I q (by simp [hl]))
theorem op_ne_dictU {X : Cx} (hu : X.A.units < cLine) : OpR X (compareOp .NotEq) (fun x y H Q => ∃ r, DSame x y H r ∧ Q (.bl (!r)) H) := by
  intro pins s σ H x y v u Q I rx ry h
  obtain ⟨r, ⟨a, b, ks, ls, rfl, rfl, ea, eb, h⟩, q⟩ := h
  obtain rfl : v = Value.ref a := rx
  obtain rfl : u = Value.ref b := ry
  obtain ⟨_, ya, va, ra, da⟩ := (show ObjOk X.prog X.w H s.heap a (.dK ks) from I.hok a _ ea)
  obtain ⟨_, yb, vb, rb, db⟩ := (show ObjOk X.prog X.w H s.heap b (.dK ls) from I.hok b _ eb)
  rcases h with ⟨hlen, rfl⟩ | ⟨hlen, hp, rfl⟩
  · have hl : va.length ≠ vb.length := by rw [← ra.length, ← rb.length]; exact hlen
    exact PySem.W.keq_ne (knd := mixKind X.prog X.w) (r := true) ya yb da db hu (fun z => absurd z hl) (fin_bl I q (by simp [hl]))
  · have hl : va.length = vb.length := by rw [← ra.length, ← rb.length]; exact hlen
    exact PySem.W.keq_ne (knd := mixKind X.prog X.w) (r := true) ya yb da db hu (fun _ => hits_all rb ra hp) (fin_bl I q (by simp [hl]))
/-- two tuples of the very same things -/
def okI : V → Bool
  | .non => true
  | .bl _ => true
  | .int _ => true
  | .str _ => true
  | .ref _ => true
  | _ => false
def IdT (K : PySem.W.Frag) (x y : V) (H : Hp) : Prop := ∃ a b xs, x = .ref a ∧ y = .ref b ∧ SqT K H a xs ∧ SqT K H b xs ∧ xs.all okI = true
theorem eqAtV {A : Around} {s : Shared} {v : V} {u w : Value} (h1 : RelV v u) (h2 : RelV v w) (ok : okI v = true) : SeqAt.EqAt A s u w true := by
  cases v <;> first | cases ok | skip
  · cases h1; cases h2; exact SeqAt.EqAt.same _
  · cases h1; cases h2; exact SeqAt.EqAt.same _
  · rename_i i
    obtain ⟨t, rfl⟩ := h1
    obtain ⟨t', rfl⟩ := h2
    have := SeqAt.EqAt.int_int (A := A) (s := s) i t i t'
    rwa [beq_self_eq_true] at this
  · rename_i x
    obtain ⟨t, rfl⟩ := h1
    obtain ⟨t', rfl⟩ := h2
    have := SeqAt.EqAt.str_str (A := A) (s := s) x t x t'
    rwa [beq_self_eq_true] at this
  · cases h1; cases h2; exact SeqAt.EqAt.same _
theorem idT_at {X : Cx} {pins : List (Addr × Obj)} {σ : L2.St} {H : Hp} {s : Shared} {x y : V} {v u : Value} (I : Inv X pins σ H s) (rx : RelV x v) (ry : RelV y u) (h : IdT X.K x y H) : ∃ (a b : Addr) (its its2 : List Value), v = .ref a ∧ u = .ref b ∧ IsTup s.heap a its.toArray ∧ IsTup s.heap b its2.toArray ∧ its.length = its2.length ∧
    ∀ (A : Around) j (h1 : j < its.toArray.size) (h2 : j < its2.toArray.size), SeqAt.EqAt A s its.toArray[j] its2.toArray[j] true := by
  obtain ⟨a, b, xs, rfl, rfl, ha, hb, ok⟩ := h
  cases rx
  cases ry
  obtain ⟨its, r1, p1, _⟩ := I.tuple ha
  obtain ⟨its2, r2, p2, _⟩ := I.tuple hb
  refine ⟨a, b, its, its2, rfl, rfl, p1, p2, r1.length.symm.trans r2.length, fun A j h1 h2 => ?_⟩
  have hj : j < xs.length := by rw [r1.length]; simpa using h1
  obtain ⟨u1, e1, q1⟩ := r1.get (List.getElem?_eq_getElem hj)
  obtain ⟨u2, e2, q2⟩ := r2.get (List.getElem?_eq_getElem hj)
  have f1 : its.toArray[j] = u1 := by
    have : its[j]? = some its.toArray[j] := by rw [List.getElem?_eq_getElem (by simpa using h1)]; rfl
    rw [e1] at this
    exact (Option.some.inj this).symm
  have f2 : its2.toArray[j] = u2 := by
    have : its2[j]? = some its2.toArray[j] := by rw [List.getElem?_eq_getElem (by simpa using h2)]; rfl
    rw [e2] at this
    exact (Option.some.inj this).symm
  rw [f1, f2]
  exact eqAtV q1 q2 (List.all_eq_true.mp ok _ (List.getElem_mem hj))
theorem all_true {n : Nat} : (List.range n).all (fun _ => true) = true := by
  rw [List.all_eq_true]
  intro _ _
  rfl
theorem op_eqI {X : Cx} (hu : X.A.units < cLine) : OpR X (compareOp .Eq) (fun x y H Q => IdT X.K x y H ∧ Q (.bl true) H) := by
  intro pins s σ H x y v u Q I rx ry h
  obtain ⟨a, b, its, its2, rfl, rfl, p1, p2, hl, he⟩ := idT_at I rx ry h.1
  refine SeqAt.eq_tupleAt (e := fun _ => true) p1 p2 hu (fun j h1 h2 => he _ j h1 h2) ?_
  rw [all_true, List.size_toArray, List.size_toArray, hl]
  exact ⟨.bl true, H, I, by simp; rfl, h.2⟩
theorem op_neI {X : Cx} (hu : X.A.units < cLine) : OpR X (compareOp .NotEq) (fun x y H Q => IdT X.K x y H ∧ Q (.bl false) H) := by
  intro pins s σ H x y v u Q I rx ry h
  obtain ⟨a, b, its, its2, rfl, rfl, p1, p2, hl, he⟩ := idT_at I rx ry h.1
  refine SeqAt.RcNeAt.tuples (e := fun _ => true) p1 p2 hu (fun j h1 h2 => he _ j h1 h2) _ _ _ _ ?_
  rw [all_true, List.size_toArray, List.size_toArray, hl]
  exact ⟨.bl false, H, I, by simp; rfl, h.2⟩
@[irreducible] def rEqO (K : PySem.W.Frag) : R2 := fun x y H Q => (scal x y = true ∧ Q (.bl (decide (x = y))) H) ∨ rEqD K x y H Q ∨ (∃ r, DSame x y H r ∧ Q (.bl r) H) ∨ (IdT K x y H ∧ Q (.bl true) H)
@[irreducible] def rNeO (K : PySem.W.Frag) : R2 := fun x y H Q => (scal x y = true ∧ Q (.bl (!decide (x = y))) H) ∨ rNeD K x y H Q ∨ (∃ r, DSame x y H r ∧ Q (.bl (!r)) H) ∨ (IdT K x y H ∧ Q (.bl false) H)
def rEqU (K : PySem.W.Frag) : R2 := fun x y H Q => match x, y with
  | .int i, .int j => Q (.bl (decide (i = j))) H
  | .str i, .str j => Q (.bl (decide (i = j))) H
  | .bl i, .bl j => Q (.bl (decide (i = j))) H
  | x, y => rEqO K x y H Q
def rNeU (K : PySem.W.Frag) : R2 := fun x y H Q => match x, y with
  | .int i, .int j => Q (.bl (!decide (i = j))) H
  | .str i, .str j => Q (.bl (!decide (i = j))) H
  | .bl i, .bl j => Q (.bl (!decide (i = j))) H
  | x, y => rNeO K x y H Q
def rI2 (p : Int → Int → Bool) (q : List Nat → List Nat → Bool) : R2 := fun x y H Q => match x, y with
  | .int i, .int j => Q (.bl (p i j)) H
  | .str i, .str j => Q (.bl (q i.cps.toList j.cps.toList)) H
  | _, _ => False
def rLtU : R2 := rI2 (fun i j => decide (i < j)) fun a b => decide (a < b)
def rLeU : R2 := rI2 (fun i j => decide (i ≤ j)) fun a b => !decide (b < a)
def rGtU : R2 := rI2 (fun i j => decide (j < i)) fun a b => decide (b < a)
def rGeU : R2 := rI2 (fun i j => decide (j ≤ i)) fun a b => !decide (a < b)
def rIsU : R2 := fun x y H Q => match x, y with
  | .bl a, .bl b => Q (.bl (decide (a = b))) H
  | x, y => y = .non ∧ Q (.bl (decide (x = .non))) H
def rIsnU : R2 := fun x y H Q => match x, y with
  | .bl a, .bl b => Q (.bl (!decide (a = b))) H
  | x, y => y = .non ∧ Q (.bl (!decide (x = .non))) H
def rInU (K : PySem.W.Frag) : R2 := fun x y H Q => match x, y with
  | .str i, .str j => Q (.bl (!(Builtin.Str.occurrences j i 0 j.length 1).isEmpty)) H
  | x, y => rIn K false x y H Q ∨ ∃ a o, y = .ref a ∧ DGet H a x o ∧ Q (.bl o.isSome) H
def rNinU (K : PySem.W.Frag) : R2 := fun x y H Q => match x, y with
  | .str i, .str j => Q (.bl (!(!(Builtin.Str.occurrences j i 0 j.length 1).isEmpty))) H
  | x, y => rIn K true x y H Q ∨ ∃ a o, y = .ref a ∧ DGet H a x o ∧ Q (.bl (!o.isSome)) H
def rCmp (K : PySem.W.Frag) : CmpOp → Option R2
  | .Eq => some (rEqU K)
  | .NotEq => some (rNeU K)
  | .Lt => some rLtU
  | .LtE => some rLeU
  | .Gt => some rGtU
  | .GtE => some rGeU
  | .Is => some rIsU
  | .IsNot => some rIsnU
  | .In => some (rInU K)
  | .NotIn => some (rNinU K)
theorem op_in_dict {X : Cx} (hu : X.A.units + 1 < cLine) : OpR X (compareOp .In) fun x y H Q => ∃ a o, y = .ref a ∧ DGet H a x o ∧ Q (.bl o.isSome) H := by
  intro pins s σ H x y v u Q I rx ry h
  obtain ⟨a, o, rfl, g, q⟩ := h
  cases ry
  exact d_in hu I g rx fun s3 I3 => ⟨.bl o.isSome, H, I3, rfl, q⟩
theorem op_nin_dict {X : Cx} (hu : X.A.units + 1 < cLine) : OpR X (compareOp .NotIn) fun x y H Q => ∃ a o, y = .ref a ∧ DGet H a x o ∧ Q (.bl (!o.isSome)) H := by
  intro pins s σ H x y v u Q I rx ry h
  obtain ⟨a, o, rfl, g, q⟩ := h
  cases ry
  exact d_notIn hu I g rx fun s3 I3 => ⟨.bl (!o.isSome), H, I3, rfl, q⟩
theorem rI2_ok {X : Cx} {op : CmpOp} {p : Int → Int → Bool} {q : List Nat → List Nat → Bool} (h : OpR X (compareOp op) (rI0 fun i j => .bl (p i j))) (h2 : OpR X (compareOp op) fun x y H Q => ∃ i j, x = .str i ∧ y = .str j ∧ Q (.bl (q i.cps.toList j.cps.toList)) H) :
    OpR X (compareOp op) (rI2 p q) := opMono (h.or h2) fun x y H Q z => by
  unfold rI2 at z
  split at z
  · exact .inl ⟨_, _, rfl, rfl, z⟩
  · exact .inr ⟨_, _, rfl, rfl, z⟩
  · exact z.elim
theorem rCmp_ok {X : Cx} {op : CmpOp} {r : R2} (hu : X.A.units + 100 < cLine) (h : rCmp X.K op = some r) : OpR X (compareOp op) r := by
  cases op <;> first | cases h | (have e := Option.some.inj h; subst e)
  · refine opMono (op_eq.or ((op_eqD (by omega)).or ((op_eq_dictU (by omega)).or (op_eqI (by omega))))) fun x y H Q q => ?_
    unfold rEqU at q
    split at q
    · exact .inl ⟨rfl, by simpa using q⟩
    · exact .inl ⟨rfl, by simpa using q⟩
    · exact .inl ⟨rfl, by simpa using q⟩
    · unfold rEqO at q
      exact q
  · refine opMono (op_ne.or ((op_neD (by omega)).or ((op_ne_dictU (by omega)).or (op_neI (by omega))))) fun x y H Q q => ?_
    unfold rNeU at q
    split at q
    · exact .inl ⟨rfl, by simpa using q⟩
    · exact .inl ⟨rfl, by simpa using q⟩
    · exact .inl ⟨rfl, by simpa using q⟩
    · unfold rNeO at q
      exact q
  · exact rI2_ok op_lt op_lt_str
  · exact rI2_ok op_le op_le_str
  · exact rI2_ok op_gt op_gt_str
  · exact rI2_ok op_ge op_ge_str
  · refine opMono (op_isBl.or op_isN) fun x y H Q q => ?_
    unfold rIsU at q
    split at q
    · exact .inl ⟨_, _, rfl, rfl, q⟩
    · exact .inr q
  · refine opMono (op_notBl.or op_notN) fun x y H Q q => ?_
    unfold rIsnU at q
    split at q
    · exact .inl ⟨_, _, rfl, rfl, q⟩
    · exact .inr q
  · refine opMono (op_in_str.or (op_in_seq.or (op_in_dict (by omega)))) fun x y H Q q => ?_
    unfold rInU at q
    split at q
    · exact .inl ⟨_, _, rfl, rfl, q⟩
    · exact .inr q
  · refine opMono (op_notIn_str.or (op_notIn_seq.or (op_nin_dict (by omega)))) fun x y H Q q => ?_
    unfold rNinU at q
    split at q
    · exact .inl ⟨_, _, rfl, rfl, q⟩
    · exact .inr q
/-- names, tests: by their kinds -/
def tV (i : Nat) : TE := fun σ H Q => match σ[i]? with
  | some (some v) => Q v H
  | _ => False
theorem pe_v {X : Cx} {i : Nat} {x : Str} {pos : Pos} (hN : X.N[i]? = some x) (hv : Vis X.env.scope x) (hd : (x == ("__debug__" : Str)) = false) (hcd : (x == ("__classdict__" : Str)) = false) : PE X (.Name x pos) (tV i) :=
  ⟨fun pins s σ H Q I h => (pe_var hN hv hd hcd).run pins s σ H Q I (by
    unfold tV at h
    split at h
    · exact ⟨_, by assumption, h⟩
    · exact h.elim)⟩
def tBo (t : TE) : TT := fun σ H Q => t σ H fun x H' => match x with
  | .bl k => Q k H'
  | _ => False
section
variable {X : Cx} {a b c : Expr} {ta tb tc : TE} {pos : Pos}
def onB (x : V) (Q : Bool → Prop) : Prop := match x with
  | .bl k => Q k
  | _ => False
theorem onB_of {x : V} {Q : Bool → Prop} (h : onB x Q) : ∃ k, x = .bl k ∧ Q k := by
  unfold onB at h
  split at h
  · exact ⟨_, rfl, h⟩
  · exact h.elim
theorem pt_cmpU {op : CmpOp} {r : R2} (ho : OpR X (compareOp op) r) (ha : PE X a ta) (hb : PE X b tb) (hm : behindInMarks op b = false) : PT X (.Compare a [op] [b] pos) (tBo (tOp r ta tb)) := by
  refine ⟨fun pins s σ H Q I h => ?_⟩
  refine wpAny_isTrue_Compare1 (thn (ha.run pins s σ H _ I h) fun v s1 ⟨x, H1, I1, r1, q1⟩ => thn (hb.run pins s1 σ H1 _ I1 q1) fun u s2 ⟨y, H2, I2, r2, q2⟩ =>
    thn (ho pins s2 σ H2 x y v u _ I2 r1 r2 q2) fun c s3 ⟨z, H3, I3, r3, q3⟩ => ?_) hm
  cases z <;> first | exact False.elim q3 | skip
  cases r3
  exact wpAny_truthy_bool ⟨H3, I3, q3⟩
def tChU (r r' : R2) (ta tb tc : TE) : TE := fun σ H Q => ta σ H fun x H1 => tb σ H1 fun y H2 => r x y H2 fun z H3 => onB z fun k => cnd k (tc σ H3 fun w' H4 => r' y w' H4 Q) (Q (.bl false) H3)
theorem pe_chU {op op' : CmpOp} {r r' : R2} (ho : OpR X (compareOp op) r) (ho' : OpR X (compareOp op') r') (ha : PE X a ta) (hb : PE X b tb) (hc : PE X c tc) (hm : lastMarks [op, op'] [b, c] = false) : PE X (.Compare a [op, op'] [b, c] pos) (tChU r r' ta tb tc) := by
  refine ⟨fun pins s σ H Q I h => ?_⟩
  refine Compare_chain (thn (ha.run pins s σ H _ I h) fun v s1 ⟨x, H1, I1, r1, q1⟩ => chain_link (thn (hb.run pins s1 σ H1 _ I1 q1) fun u s2 ⟨y, H2, I2, r2, q2⟩ =>
    thn (ho pins s2 σ H2 x y v u _ I2 r1 r2 q2) fun d s3 ⟨z, H3, I3, r3, q3⟩ => ?_)) hm
  obtain ⟨k, e, q3⟩ := onB_of q3
  subst e
  cases r3
  refine wpAny_truthy_bool ?_
  cases k with
  | false => exact ite_ff ⟨.bl false, H3, I3, rfl, of_f q3⟩
  | true => exact ite_tt (chain_last (thn (hc.run pins s3 σ H3 _ I3 (of_t q3)) fun w' s4 ⟨z', H4, I4, r4, q4⟩ => ho' pins s4 σ H4 y z' u w' Q I4 r2 r4 q4))
theorem pt_chU {op op' : CmpOp} {r r' : R2} (ho : OpR X (compareOp op) r) (ho' : OpR X (compareOp op') r') (ha : PE X a ta) (hb : PE X b tb) (hc : PE X c tc) (hm : lastMarks [op, op'] [b, c] = false) : PT X (.Compare a [op, op'] [b, c] pos) (tBo (tChU r r' ta tb tc)) := by
  refine ⟨fun pins s σ H Q I h => ?_⟩
  refine isTrue_chain (thn (ha.run pins s σ H _ I h) fun v s1 ⟨x, H1, I1, r1, q1⟩ => test_link (thn (hb.run pins s1 σ H1 _ I1 q1) fun u s2 ⟨y, H2, I2, r2, q2⟩ =>
    thn (ho pins s2 σ H2 x y v u _ I2 r1 r2 q2) fun d s3 ⟨z, H3, I3, r3, q3⟩ => ?_)) hm
  obtain ⟨k, e, q3⟩ := onB_of q3
  subst e
  cases r3
  refine wpAny_truthy_bool ?_
  cases k with
  | false =>
    have q3 := of_f q3
    exact ite_ff ⟨H3, I3, q3⟩
  | true =>
    have q3 := of_t q3
    refine ite_tt (test_last (thn (hc.run pins s3 σ H3 _ I3 q3) fun w' s4 ⟨z', H4, I4, r4, q4⟩ => thn (ho' pins s4 σ H4 y z' u w' _ I4 r2 r4 q4) fun d' s5 ⟨z2, H5, I5, r5, q5⟩ => ?_))
    cases z2 <;> first | exact False.elim q5 | skip
    cases r5
    exact wpAny_truthy_bool ⟨H5, I5, q5⟩
/-- and, or of truths, as values; not, by truth -/
def tAndU (ta tb : TE) : TE := fun σ H Q => ta σ H fun x H1 => onB x fun c => cnd c (tb σ H1 Q) (Q (.bl false) H1)
def tOrU (ta tb : TE) : TE := fun σ H Q => ta σ H fun x H1 => onB x fun c => cnd c (Q (.bl true) H1) (tb σ H1 Q)
def tNotU (ta : TE) : TE := fun σ H Q => ta σ H fun x H1 => onB x fun c => Q (.bl (!c)) H1
theorem pe_andU {rest : List Expr} (ha : PE X a ta) (hb : PE X (.BoolOp .And (b :: rest) pos) tb) : PE X (.BoolOp .And (a :: b :: rest) pos) (tAndU ta tb) := by
  refine ⟨fun pins s σ H Q I h => ?_⟩
  refine BoolOp_and (thn (ha.run pins s σ H _ I h) fun v s1 ⟨x, H1, I1, r1, q1⟩ => ?_)
  obtain ⟨c, rfl, q1⟩ := onB_of q1
  cases r1
  refine wpAny_truthy_bool ?_
  cases c with
  | true => exact hb.run pins s1 σ H1 Q I1 (of_t q1)
  | false => exact ⟨.bl false, H1, I1, rfl, of_f q1⟩
theorem pe_orU {rest : List Expr} (ha : PE X a ta) (hb : PE X (.BoolOp .Or (b :: rest) pos) tb) : PE X (.BoolOp .Or (a :: b :: rest) pos) (tOrU ta tb) := by
  refine ⟨fun pins s σ H Q I h => ?_⟩
  refine BoolOp_or (thn (ha.run pins s σ H _ I h) fun v s1 ⟨x, H1, I1, r1, q1⟩ => ?_)
  obtain ⟨c, rfl, q1⟩ := onB_of q1
  cases r1
  refine wpAny_truthy_bool ?_
  cases c with
  | false => exact hb.run pins s1 σ H1 Q I1 (of_f q1)
  | true => exact ⟨.bl true, H1, I1, rfl, of_t q1⟩
theorem pe_notU (ha : PE X a ta) : PE X (.UnaryOp .Not a pos) (tNotU ta) := by
  refine ⟨fun pins s σ H Q I h => ?_⟩
  refine UnaryOp_ (thn (ha.run pins s σ H _ I h) fun v s1 ⟨x, H1, I1, r1, q1⟩ => ?_)
  obtain ⟨c, rfl, q1⟩ := onB_of q1
  cases r1
  exact not_of (wpAny_truthy_bool ⟨.bl (!c), H1, I1, rfl, q1⟩)
def rNegU (x : V) (H : Hp) (Q : VK) : Prop := match x with
  | .int i => Q (.int (-i)) H
  | _ => False
theorem un_negU : UnR X (unaryOp .USub) rNegU := fun pins s σ H x v Q I rx h => un_neg pins s σ H x v Q I rx (by
  unfold rNegU at h
  split at h
  · exact ⟨_, rfl, h⟩
  · exact h.elim)
end
def truM (K : PySem.W.Frag) (x : V) (H : Hp) (Q : Bool → Hp → Prop) : Prop := match x with
  | .non => Q false H
  | .bl b => Q b H
  | .int i => Q (i != 0) H
  | .str y => y.length ≤ sizeLine ∧ Q ((y.length : Int) != 0) H
  | .ref p => (∃ xs, SqL K H p xs ∧ Q (!xs.isEmpty) H) ∨ (∃ xs, SqT K H p xs ∧ Q (!xs.isEmpty) H) ∨ ∃ kvs, H p = some (.dK kvs) ∧ Q (!kvs.isEmpty) H
  | _ => False
theorem truM_ok {K : PySem.W.Frag} {x : V} {H : Hp} {Q : Bool → Hp → Prop} (h : truM K x H Q) : ∃ k, TruV K x H k ∧ Q k H := by
  unfold truM at h
  split at h
  · exact ⟨_, rfl, h⟩
  · exact ⟨_, rfl, h⟩
  · exact ⟨_, rfl, h⟩
  · exact ⟨_, ⟨h.1, rfl⟩, h.2⟩
  · rcases h with ⟨xs, h1, h2⟩ | ⟨xs, h1, h2⟩ | ⟨kvs, h1, h2⟩
    · exact ⟨_, .inl ⟨xs, h1, rfl⟩, h2⟩
    · exact ⟨_, .inr (.inl ⟨xs, h1, rfl⟩), h2⟩
    · exact ⟨_, .inr (.inr ⟨kvs, h1, rfl⟩), h2⟩
  · exact h.elim
theorem pt_tru {X : Cx} {a : Expr} {ta : TE} (ha : PE X a ta) (he : ∀ whole, isTrue a X.env whole = (do let v ← whole; standAt a.pos; holding [v] (truthy v))) : PT X a (fun σ H Q => ta σ H fun x H' => truM X.K x H' Q) := by
  refine ⟨fun pins s σ H Q I h => ?_⟩
  exact isTrue_plain (thn (ha.run pins s σ H _ I h) fun v s1 ⟨x, H1, I1, r1, q1⟩ => tru_ok pins s1 σ H1 x v Q I1 r1 (truM_ok q1)) (he _)
def tTru (K : PySem.W.Frag) (te : TE) : TT := fun σ H Q => te σ H fun x H' => truM K x H' Q
end Rf
/-! Walks over dicts whose keys are tuples: values, items; enumerate over a dict. -/
namespace Rf
open PySem L2 PySem.Spec PyProof.Rows
section
variable {X : Cx} {pins : List (Addr × Obj)} {σ : L2.St} {H : Hp} {s : Shared} {d : Addr} {o : Obj}
theorem frzTV {kvs : List (List Key × V)} (I : Inv X pins σ H s) (h : H d = some (.frz o (.dT kvs))) :
    (d == sysModules) = false ∧ s.heap.get? d = some o ∧ o.ExactDict ∧ ∃ (es : Array DictEntry) (ep : Nat), o.data = .dict es ep ∧ es.size = kvs.length ∧
      ∀ (i : Nat) (k : List Key) (v : V), kvs[i]? = some (k, v) → ∃ (en : DictEntry) (q : Addr), es[i]? = some en ∧ en.key = .ref q ∧ H q = some (.tup (k.map kV)) ∧ RelV v en.val := by
  obtain ⟨hd, z, hs, xs, pr, o', es, ep, ho, hx, hdt, he, _⟩ := I.hok d _ h
  rw [hd] at ho
  cases ho
  refine ⟨hs, hd, hx, es, ep, hdt, ?_, fun i k v e => ?_⟩
  · have l1 : es.size = xs.length := size_of_entries he
    have l2 : kvs.length = xs.length := Paired.length pr
    omega
  · obtain ⟨b, hb, e1, e2, e3⟩ := paired_get pr e
    have q := entry_at he i
    rw [hb] at q
    exact ⟨_, b.2.1, q, rfl, e2, e3⟩
end
/-- the values, the pairs (key's own tuple, value) -/
def Itdt (d : Addr) (o : Obj) (kvs : List (List Key × V)) : It :=
  ⟨fun i H => H d = some (.frz o (.dT kvs)) ∧ i < kvs.length, fun i H x H' => H' = H ∧ ∃ k, kvs[i]? = some (k, x), fun i H => H d = some (.frz o (.dT kvs)) ∧ kvs.length ≤ i⟩
def Itit (d : Addr) (o : Obj) (kvs : List (List Key × V)) : It :=
  ⟨fun i H => H d = some (.frz o (.dT kvs)) ∧ i < kvs.length, fun i H x H' => ∃ T k v q, kvs[i]? = some (k, v) ∧ H q = some (.tup (k.map kV)) ∧ x = .ref T ∧ H T = none ∧ H' = upd H T (.tup [.ref q, v]), fun i H => H d = some (.frz o (.dT kvs)) ∧ kvs.length ≤ i⟩
section
variable {P : Program} {w : World} {K : PySem.W.Frag} {tg : Expr} {d : Addr} {o : Obj} {es : Array DictEntry} {ep : Nat}
theorem turn_valsT {kvs : List (List Key × V)} (it : Addr) (hod : o.data = .dict es ep) : Turn P w K tg (Itdt d o kvs) [it] it (fun i h => h.IsValIter it d i kvs.length ep) where
  mem := by simp
  obj := fun i h st b hb => by
    have e : b = it := by simpa using hb
    subst e
    obtain ⟨oi, e, c, dd⟩ := st
    exact ⟨oi, e, fun v z => by rw [dd] at z; cases z⟩
  keep := fun i h h' st k => st.at fun oi e => k it (by simp) oi e
  item := by
    intro X hP hw hK hc i pins s σ H E I hf st hg
    subst hP hw hK
    obtain ⟨hd, hi⟩ := hg
    obtain ⟨f0, f1, f2, f3, f4, f5⟩ := hf it (by simp)
    obtain ⟨hs, hgd, hx, es', ep', hdt, hsz, ent⟩ := frzTV I hd
    obtain ⟨rfl, rfl⟩ := dict_ep hod hdt
    obtain ⟨⟨k, v⟩, hkv⟩ : ∃ p, kvs[i]? = some p := ⟨kvs[i], List.getElem?_eq_getElem hi⟩
    obtain ⟨en, q, hen, hkey, hq, rv⟩ := ent i k v hkv
    have st' := st
    rw [← hsz] at st'
    have hi' : i < es'.size := by rw [hsz]; exact hi
    refine wpAny_pyNext_values_item_raw st' ⟨o, hgd, hx, hdt⟩ hi' fun h' st2 sb => ?_
    have I1 : Inv X pins σ H { s with heap := h' } := I.turned (t' := s.toks) (fun b ob hb e => (sb.2 b hb).trans e) f0 f1 f3 f4 f5
    obtain ⟨oi, e, c, dd⟩ := id st2
    have ev : es'[i] = en := by
      rw [Array.getElem?_eq_getElem hi'] at hen
      exact Option.some.inj hen
    refine ⟨es'[i].val, rfl, go_of (s := { s with heap := h' }) e c dd (by decide) ⟨v, H, I1, by rw [ev]; exact rv, ⟨rfl, k, hkv⟩, ?_, fun b hb => (hf b hb).1⟩⟩
    show h'.IsValIter it d (i + 1) kvs.length _
    rw [← hsz]
    exact st2
  done := by
    intro X hP hw hK hc i pins s σ H E I hf st hg
    subst hP hw hK
    obtain ⟨hd, hi⟩ := hg
    obtain ⟨f0, f1, f2, f3, f4, f5⟩ := hf it (by simp)
    obtain ⟨hs, hgd, hx, es', ep', hdt, hsz, ent⟩ := frzTV I hd
    obtain ⟨rfl, rfl⟩ := dict_ep hod hdt
    rw [← hsz] at st hi
    exact wpAny_pyNext_values_end_raw (I.ok.hd hc) st ⟨o, hgd, hx, hdt⟩ hi fun h' eb => ⟨rfl, I.turned (t' := s.toks) (fun b ob hb e => eb b ob hb e) f0 f1 f3 f4 f5⟩
  self := fun A i s Q E st h => wpAny_pyIter_valiter st h
theorem turn_itemsT {kvs : List (List Key × V)} {elts : List Expr} {kk : Nat} {tpos : Pos} (it : Addr) (hod : o.data = .dict es ep) :
    Turn P w K (.Tuple elts kk tpos) (Itit d o kvs) [it] it (fun i h => ∃ ok ov, IsItemIter h it d i kvs.length ep ok ov) where
  mem := by simp
  obj := fun i h st b hb => by
    have e : b = it := by simpa using hb
    subst e
    obtain ⟨ok, ov, e⟩ := st
    exact ⟨_, e, fun v z => nomatch z⟩
  keep := fun i h h' st k => let ⟨ok, ov, e⟩ := st; ⟨ok, ov, k it (by simp) _ e⟩
  item := by
    intro X hP hw hK hc i pins s σ H E I hf st hg
    subst hP hw hK
    obtain ⟨hd, hi⟩ := hg
    obtain ⟨hs, hgd, hx, es', ep', hdt, hsz, ent⟩ := frzTV I hd
    obtain ⟨rfl, rfl⟩ := dict_ep hod hdt
    obtain ⟨⟨k, v⟩, hkv⟩ : ∃ p, kvs[i]? = some p := ⟨kvs[i], List.getElem?_eq_getElem hi⟩
    obtain ⟨en, q, hen, hkey, hq, rv⟩ := ent i k v hkv
    obtain ⟨ok, ov, he⟩ := st
    rw [← hsz] at he
    have hi' : i < es'.size := by rw [hsz]; exact hi
    have hlt : it < s.heap.objs.size := Heap.lt_size he
    have ev : es'[i] = en := by
      rw [Array.getElem?_eq_getElem hi'] at hen
      exact Option.some.inj hen
    refine wpAny_pyNext_items_item_raw he ⟨o, hgd, hx, hdt⟩ hi' fun h' ho hT hz hk => ?_
    refine ⟨_, rfl, wpAny_letOwnedTupleGo_items (s := { s with heap := h' }) ho fun h'' he' sb => ?_⟩
    rw [ev, hkey] at hT
    have hT2 : h''.get? s.heap.objs.size = some { cls := .type "tuple", data := .seq #[.ref q, en.val] } := (sb.2 _ (Nat.ne_of_gt hlt)).trans hT
    have new : ObjOk X.prog X.w (upd H s.heap.objs.size (.tup [.ref q, v])) h'' s.heap.objs.size (.tup [.ref q, v]) :=
      ⟨by show 2 ≤ sizeLine; decide, [.ref q, en.val], .cons rfl (.cons rv .nil), ⟨_, hT2, rfl, _, rfl⟩⟩
    have I1 : Inv X pins σ (upd H s.heap.objs.size (.tup [.ref q, v])) { s with heap := h'' } :=
      I.turnedNew (t' := s.toks) (ch := [it]) (fun b ob hb e => (sb.2 b (by simpa using hb)).trans (hk b ob (by simpa using hb) e)) hf (Nat.le_refl _) new
    refine ⟨.ref s.heap.objs.size, _, I1, rfl, ⟨_, k, v, q, hkv, hq, rfl, I.hok.fresh (Nat.le_refl _), rfl⟩, ⟨es'[i].key, es'[i].val, ?_⟩, fun b hb => ?_⟩
    · rw [← hsz]; exact he'
    · have e : b = it := by simpa using hb
      rw [e, upd_ne (Nat.ne_of_lt hlt)]
      exact (hf it (by simp)).1
  done := by
    intro X hP hw hK hc i pins s σ H E I hf st hg
    subst hP hw hK
    obtain ⟨hd, hi⟩ := hg
    obtain ⟨f0, f1, f2, f3, f4, f5⟩ := hf it (by simp)
    obtain ⟨hs, hgd, hx, es', ep', hdt, hsz, ent⟩ := frzTV I hd
    obtain ⟨rfl, rfl⟩ := dict_ep hod hdt
    obtain ⟨ok, ov, he⟩ := st
    rw [← hsz] at he hi
    exact wpAny_pyNext_items_end_raw (I.ok.hd hc) he ⟨o, hgd, hx, hdt⟩ hi fun h' eb => ⟨rfl, I.turned (t' := s.toks) (fun b ob hb e => eb b ob hb e) f0 f1 f3 f4 f5⟩
  self := fun A i s Q E st h => let ⟨_, _, e⟩ := st; PySem.W.kcp_self e h
end
/-! ### rules -/
def iValsU (td : TE) : TI := fun σ H R => td σ H fun x H1 => ∃ d o, x = .ref d ∧ ((∃ kvs, H1 d = some (.frz o (.dK kvs)) ∧ R (Itd d o kvs) H1) ∨ ∃ kvs, H1 d = some (.frz o (.dT kvs)) ∧ R (Itdt d o kvs) H1)
def iItemsU (td : TE) : TI := fun σ H R => td σ H fun x H1 => ∃ d o, x = .ref d ∧ ((∃ kvs, H1 d = some (.frz o (.dK kvs)) ∧ R (Iti d o kvs) H1) ∨ ∃ kvs, H1 d = some (.frz o (.dT kvs)) ∧ R (Itit d o kvs) H1)
section
variable {X : Cx} {tg e : Expr} {td : TE} {apos cpos : Pos}
theorem rawNoDict {s : Shared} {d : Addr} {es : Array DictEntry} {ep : Nat} (x : DT.Raw s.heap d es ep) : ∀ a, Value.ref d = Value.ref a → ∃ ob, s.heap.get? a = some ob ∧ ob.dict = none := fun a e => by
  obtain ⟨o, ho, hx, _⟩ := x
  cases e
  exact ⟨o, ho, hx.2.1⟩
theorem pi_valuesU (he : PE X e td) (hbase : attributeBase e "values" X.env (eval e X.env) = eval e X.env := by rfl) (hline : (apos.endLine == cpos.line) = true := by rfl) : PI X tg (.Call (.Attribute e "values" apos) [] [] cpos) (iValsU td) := by
  refine ⟨fun pins s σ H R I h => ?_⟩
  refine wpAny_Call_method (T := "dict") (id := "dict.values") hbase rfl hline F.plainAttrs_dict F.slot_dict_values F.type_dict_values (thn (he.run pins s σ H _ I h) fun u s1 ⟨x, H1, I1, rx, d, o, ex, q⟩ => ?_)
  subst ex
  obtain rfl : u = Value.ref d := rx
  rcases q with ⟨kvs, hd, q⟩ | ⟨kvs, hd, q⟩
  · obtain ⟨hs, hgd, hx, es, ep, vs, hdt, hsz, kv, hm⟩ := I1.frzK hd
    have hl : kvs.length = vs.length := Paired.length kv
    refine ⟨hm.dictOf.typeIs, hm.dictOf.mapOf.noDict, ?_⟩
    have I2 : Inv X pins σ H1 { s1 with heap := s1.heap.push { cls := .type "dict_values", data := .fields #[.ref d] } } := I1.kept (t' := s1.toks) fun b ob q => Heap.get?_push_of_some _ q
    have fin : wpAny (model X.prog X.w) X.A (pyIter (.ref s1.heap.objs.size)) (PIE X pins σ tg R) X.xe { s1 with heap := s1.heap.push { cls := .type "dict_values", data := .fields #[.ref d] } } := by
      refine wpAny_pyIter_values (d := d) (knd := mixKind X.prog X.w) ⟨_, Heap.get?_push_size _ rfl, rfl, rfl⟩ (hm.push _) (pi_one (tk := s1.toks) I2 _ (turn_vals _ hdt) ⟨_, Heap.get?_push_size _ rfl, rfl, ?_⟩ q)
      rw [hl] <;> rfl
    show wpAny _ _ (callWith cpos (.builtin "dict.values") [.ref d] [] []) _ X.xe s1
    exact method_meetsIn F.slot_dict_values F.entry_dict_values rfl (PySem.evalArgs_none ⟨rfl, hm.dictOf.typeIs, F.args_dict_values_1 _, _, meets_dict_values (mixKind X.prog X.w) d hs, ⟨vs, hm.dictOf⟩, fin⟩)
  · obtain ⟨hs, hgd, hx, es, ep, hdt, hsz, ent⟩ := frzTV I1 hd
    have raw : DT.Raw s1.heap d es ep := ⟨o, hgd, hx, hdt⟩
    refine ⟨raw.typeIs, rawNoDict raw, ?_⟩
    have I2 : Inv X pins σ H1 { s1 with heap := s1.heap.push { cls := .type "dict_values", data := .fields #[.ref d] } } := I1.kept (t' := s1.toks) fun b ob q => Heap.get?_push_of_some _ q
    have fin : wpAny (model X.prog X.w) X.A (pyIter (.ref s1.heap.objs.size)) (PIE X pins σ tg R) X.xe { s1 with heap := s1.heap.push { cls := .type "dict_values", data := .fields #[.ref d] } } := by
      refine wpAny_pyIter_values_raw (d := d) ⟨_, Heap.get?_push_size _ rfl, rfl, rfl⟩ (raw.push _) (pi_one (tk := s1.toks) I2 _ (turn_valsT _ hdt) ⟨_, Heap.get?_push_size _ rfl, rfl, ?_⟩ q)
      rw [hsz] <;> rfl
    show wpAny _ _ (callWith cpos (.builtin "dict.values") [.ref d] [] []) _ X.xe s1
    exact method_meetsIn F.slot_dict_values F.entry_dict_values rfl (PySem.evalArgs_none ⟨rfl, raw.typeIs, F.args_dict_values_1 _, _, meets_dict_values_raw d hs, ⟨es, ep, raw⟩, fin⟩)
theorem pi_itemsU {elts : List Expr} {kk : Nat} {tpos : Pos} (he : PE X e td) (hbase : attributeBase e "items" X.env (eval e X.env) = eval e X.env := by rfl) (hline : (apos.endLine == cpos.line) = true := by rfl) :
    PI X (.Tuple elts kk tpos) (.Call (.Attribute e "items" apos) [] [] cpos) (iItemsU td) := by
  refine ⟨fun pins s σ H R I h => ?_⟩
  refine wpAny_Call_method (T := "dict") (id := "dict.items") hbase rfl hline F.plainAttrs_dict F.slot_dict_items F.type_dict_items (thn (he.run pins s σ H _ I h) fun u s1 ⟨x, H1, I1, rx, d, o, ex, q⟩ => ?_)
  subst ex
  obtain rfl : u = Value.ref d := rx
  have I2 : Inv X pins σ H1 { s1 with heap := s1.heap.push { cls := .type "dict_items", data := .fields #[.ref d] } } := I1.kept (t' := s1.toks) fun b ob q => Heap.get?_push_of_some _ q
  rcases q with ⟨kvs, hd, q⟩ | ⟨kvs, hd, q⟩
  · obtain ⟨hs, hgd, hx, es, ep, vs, hdt, hsz, kv, hm⟩ := I1.frzK hd
    have hl : kvs.length = vs.length := Paired.length kv
    refine ⟨hm.dictOf.typeIs, hm.dictOf.mapOf.noDict, ?_⟩
    have fin : wpAny (model X.prog X.w) X.A (pyIter (.ref s1.heap.objs.size)) (PIE X pins σ (.Tuple elts kk tpos) R) X.xe { s1 with heap := s1.heap.push { cls := .type "dict_items", data := .fields #[.ref d] } } := by
      refine wpAny_pyIter_items (d := d) (knd := mixKind X.prog X.w) ⟨_, Heap.get?_push_size _ rfl, rfl, rfl⟩ (hm.push _) (pi_one (tk := s1.toks) I2 _ (turn_items _ hdt) ⟨.none, .none, ?_⟩ q)
      rw [hl]
      exact Heap.get?_push_size _ rfl
    show wpAny _ _ (callWith cpos (.builtin "dict.items") [.ref d] [] []) _ X.xe s1
    exact method_meetsIn F.slot_dict_items F.entry_dict_items rfl (PySem.evalArgs_none ⟨rfl, hm.dictOf.typeIs, F.args_dict_items_1 _, _, meets_dict_items (mixKind X.prog X.w) d hs, ⟨vs, hm.dictOf⟩, fin⟩)
  · obtain ⟨hs, hgd, hx, es, ep, hdt, hsz, ent⟩ := frzTV I1 hd
    have raw : DT.Raw s1.heap d es ep := ⟨o, hgd, hx, hdt⟩
    refine ⟨raw.typeIs, rawNoDict raw, ?_⟩
    have fin : wpAny (model X.prog X.w) X.A (pyIter (.ref s1.heap.objs.size)) (PIE X pins σ (.Tuple elts kk tpos) R) X.xe { s1 with heap := s1.heap.push { cls := .type "dict_items", data := .fields #[.ref d] } } := by
      refine wpAny_pyIter_items_raw (d := d) ⟨_, Heap.get?_push_size _ rfl, rfl, rfl⟩ (raw.push _) (pi_one (tk := s1.toks) I2 _ (turn_itemsT _ hdt) ⟨.none, .none, ?_⟩ q)
      rw [← hsz]
      exact Heap.get?_push_size _ rfl
    show wpAny _ _ (callWith cpos (.builtin "dict.items") [.ref d] [] []) _ X.xe s1
    exact method_meetsIn F.slot_dict_items F.entry_dict_items rfl (PySem.evalArgs_none ⟨rfl, raw.typeIs, F.args_dict_items_1 _, _, meets_dict_items_raw d hs, ⟨es, ep, raw⟩, fin⟩)
end
end Rf
/-! enumerate over a dict's keys. -/
namespace RfE
open PySem PySem.Spec PyProof.Rows Builtin
open AutoSeq1 (wpAny_loadPart')
theorem meets_enumerate_newD (l : Addr) (es : Array DictEntry) (ep : Nat) (lo : (l == sysModules) = false) :
    Meets (Builtin.«enumerate.__new__» ⟨[.type "enumerate", .ref l], []⟩) (fun _ R s => s.heap.get? l = some { cls := .type "dict", dict := none, data := .dict es ep, slots := #[] } ∧
      R (.ok (.ret (.ref (s.heap.push { cls := .type "dict_keyiterator", data := .fields #[.ref l, .int 0 0, .int es.size 0, .int ep 0] }).objs.size)))
        { s with heap := (s.heap.push { cls := .type "dict_keyiterator", data := .fields #[.ref l, .int 0 0, .int es.size 0, .int ep 0] }).push { cls := .type "enumerate", data := .fields #[.none, .bool false, .ref s.heap.objs.size, rawInt 0, .none, .none] } }) :=
  .of_wp fun prog w A R s h => by
    obtain ⟨hp, g, d, tk, os⟩ := s; obtain ⟨hl, h⟩ := h
    have hsub := sub_enumerate
    have hL : Heap.DictRaw (Shared.heap ⟨hp, g, d, tk, os⟩) l es ep := ⟨_, hl, ⟨rfl, rfl, rfl⟩, rfl⟩
    wp_walk using wpAny_loadPart' hl
    refine wpAny_stack_any fun st => wpAny_pure ?_
    split
    · rename_i c _ _ _ _ _
      cases (c == Value.type "enumerate")
      · wp_walk using wpAny_loadPart' hl, wpAny_pyIter_dict_raw lo hL
        exact ⟨_, rfl, h⟩
      · wp_walk using wpAny_loadPart' hl, wpAny_pyIter_dict_raw lo hL
        exact ⟨_, rfl, h⟩
    · wp_walk using wpAny_loadPart' hl, wpAny_pyIter_dict_raw lo hL
      exact ⟨_, rfl, h⟩
section
variable {prog : Program} {w : World} {A : Around} {E : Value → Shared → Prop} {s : Shared}
theorem call_enumerate_dict {l : Addr} {es : Array DictEntry} {ep : Nat} {Q : Value → Shared → Prop} (lo : (l == sysModules) = false) (hL : s.heap.DictRaw l es ep)
    (h : ∀ h', IsEnum h' (s.heap.objs.size + 1) s.heap.objs.size 0 .none → h'.IsKeyIter s.heap.objs.size l 0 es.size ep → h'.objs.size = s.heap.objs.size + 2 →
      (∀ b o, s.heap.get? b = some o → h'.get? b = some o) → Q (.ref (s.heap.objs.size + 1)) { s with heap := h' }) :
    wpAny (model prog w) A (call (.type "enumerate") [.ref l]) Q E s := by
  obtain ⟨⟨c, dct, dt, sl⟩, hl, ⟨hc, h1, h2⟩, hd⟩ := hL
  replace hc : c = .type "dict" := hc
  replace hd : dt = .dict es ep := hd
  replace h1 : dct = none := h1
  replace h2 : sl = #[] := h2
  subst hc hd h1 h2
  refine callType_new F.called_enumerate (by decide) (F.typeCall_enumerate_1 _) (F.newCall_enumerate_1 _) (fun obj => F.args_object_init_2 obj _) F.entry_enumerate_new
    (meets_enumerate_newD l es ep lo) ⟨hl, ?_⟩
  have hz : (s.heap.push { cls := .type "dict_keyiterator", data := .fields #[.ref l, .int 0 0, .int es.size 0, .int ep 0] }).objs.size = s.heap.objs.size + 1 := Heap.size_push ..
  show _ ∧ _
  rw [hz]
  have he : IsEnum ((s.heap.push { cls := .type "dict_keyiterator", data := .fields #[.ref l, .int 0 0, .int es.size 0, .int ep 0] }).push
      { cls := .type "enumerate", data := .fields #[.none, .bool false, .ref s.heap.objs.size, rawInt 0, .none, .none] }) (s.heap.objs.size + 1) s.heap.objs.size 0 .none := by
    have := Heap.get?_push_size (s.heap.push { cls := .type "dict_keyiterator", data := .fields #[.ref l, .int 0 0, .int es.size 0, .int ep 0] })
      (o := { cls := .type "enumerate", data := .fields #[.none, .bool false, .ref s.heap.objs.size, rawInt 0, .none, .none] }) rfl
    rw [hz] at this; exact this
  refine ⟨⟨_, he, rfl⟩, h _ he ⟨_, Heap.get?_push_of_some _ (Heap.get?_push_size _ rfl), rfl, rfl⟩ (by rw [Heap.size_push, hz]) fun b o x => Heap.get?_push_of_some _ (Heap.get?_push_of_some _ x)⟩
theorem nextOf_key_item {it d : Addr} {i ep : Nat} {es : Array DictEntry} {Q : Value → Shared → Prop} (hit : s.heap.IsKeyIter it d i es.size ep)
    (hm : s.heap.DictRaw d es ep) (hlt' : i < es.size)
    (hQ : ∀ h', h'.IsKeyIter it d (i + 1) es.size ep → Heap.SameBut it s.heap h' → Q es[i].key { s with heap := h' }) : wpAny (model prog w) A (Builtin.SmallTypes.nextOf (.ref it)) Q E s := by
  obtain ⟨o, ho, hc, hd⟩ := id hit
  obtain ⟨od, hod, hcd, hdd⟩ := id hm
  unfold Builtin.SmallTypes.nextOf
  refine wpAny_bind (wpAny_callSpecial?_slot (name := Str.ofString "__next__") hit.typeIs F.slot_dict_keyiterator_next
    (wpAny_call_entry F.slot_dict_keyiterator_next hit.typeIs F.entry_dict_keyiterator_next ?_ (F.args_dict_keyiterator_next_1 _)))
  refine wpAny_bind (wpAny_pure ?_)
  refine wpAny_bind ?_
  refine wpAny_bind ?_
  first | refine wpAny_bind (wpAny_typeNameOfWhole_keyiter hit.typeIs (wpAny_pure ?_)) | refine wpAny_bind (wpAny_typeNameOf_keyiter hit.typeIs (wpAny_pure ?_))
  refine wpAny_bind (wpAny_fieldsOf ho hd ?_)
  have hown : Builtin.Dict_items.ownsTuple "dict_keyiterator" = false := by decide
  simp only [hown, Bool.false_eq_true, if_false]
  show wpAny _ _ (if (Value.ref d == Value.none) = true then _ else _) _ _ s
  rw [if_neg (show ¬ ((Value.ref d == Value.none) = true) from Bool.false_ne_true)]
  refine wpAny_bind (wpAny_pure ?_)
  refine wpAny_bind (wpAny_dictEntries hod hdd ?_)
  rw [if_neg (by simp)]
  refine wpAny_bind (wpAny_pure ?_)
  refine wpAny_bind (wpAny_dictEpoch hod hdd ?_)
  rw [if_neg (by simp)]
  refine wpAny_pure ?_
  simp only [show ¬ ((i : Int) < 0) from by omega, if_false, Int.toNat_natCast, Array.getElem?_eq_getElem hlt']
  refine wpAny_bind ?_
  first | refine wpAny_bind (wpAny_typeNameOfWhole_keyiter hit.typeIs (wpAny_pure ?_)) | refine wpAny_bind (wpAny_typeNameOf_keyiter hit.typeIs (wpAny_pure ?_))
  refine wpAny_bind (wpAny_isOneOf_keyiter hit.typeIs ?_)
  show wpAny _ _ (setField (.ref it) 1 (rawInt ((i : Int) + 1)) >>= _) _ _ s
  refine wpAny_bind (wpAny_setField ho hd (by simp) ?_)
  have hit' : (s.heap.update it (Obj.mapFields (·.setIfInBounds 1 (rawInt ((i : Int) + 1))))).IsKeyIter it d (i + 1) es.size ep :=
    ⟨_, Heap.get?_update_self _ ho (Obj.isFreed_of_fields (Obj.data_mapFields hd _)), (Obj.cls_mapFields ..).trans hc, by rw [Obj.data_mapFields hd]; simp [rawInt]⟩
  refine wpAny_bind (wpAny_holding ?_)
  refine wpAny_bind (wpAny_isOneOf_keyiter (s := { s with heap := s.heap.update it (Obj.mapFields (·.setIfInBounds 1 (rawInt ((i : Int) + 1)))) }) hit'.typeIs ?_)
  show wpAny _ _ (pure es[i].key) _ _ _
  exact wpAny_pure (wpAny_pure ⟨_, rfl, wpAny_pure (hQ _ hit' (Heap.SameBut.update ..))⟩)
theorem nextOf_key_end {it d : Addr} {i ep : Nat} {es : Array DictEntry} {Q : Value → Shared → Prop} (hh : A.handled = none) (hit : s.heap.IsKeyIter it d i es.size ep)
    (hm : s.heap.DictRaw d es ep) (hge : es.size ≤ i)
    (hE : ∀ h' e, Heap.ExtBut it s.heap h' → (∃ o, h'.get? e = some o ∧ o.cls = .type "StopIteration") → E (.ref e) { s with heap := h' }) :
    wpAny (model prog w) A (Builtin.SmallTypes.nextOf (.ref it)) Q E s := by
  obtain ⟨o, ho, hc, hd⟩ := id hit
  obtain ⟨od, hod, hcd, hdd⟩ := id hm
  unfold Builtin.SmallTypes.nextOf
  refine wpAny_bind (wpAny_callSpecial?_slot (name := Str.ofString "__next__") hit.typeIs F.slot_dict_keyiterator_next
    (wpAny_call_entry F.slot_dict_keyiterator_next hit.typeIs F.entry_dict_keyiterator_next ?_ (F.args_dict_keyiterator_next_1 _)))
  refine wpAny_bind (wpAny_pure ?_)
  refine wpAny_bind ?_
  refine wpAny_bind ?_
  first | refine wpAny_bind (wpAny_typeNameOfWhole_keyiter hit.typeIs (wpAny_pure ?_)) | refine wpAny_bind (wpAny_typeNameOf_keyiter hit.typeIs (wpAny_pure ?_))
  refine wpAny_bind (wpAny_fieldsOf ho hd ?_)
  have hown : Builtin.Dict_items.ownsTuple "dict_keyiterator" = false := by decide
  simp only [hown, Bool.false_eq_true, if_false]
  show wpAny _ _ (if (Value.ref d == Value.none) = true then _ else _) _ _ s
  rw [if_neg (show ¬ ((Value.ref d == Value.none) = true) from Bool.false_ne_true)]
  refine wpAny_bind (wpAny_pure ?_)
  refine wpAny_bind (wpAny_dictEntries hod hdd ?_)
  rw [if_neg (by simp)]
  refine wpAny_bind (wpAny_pure ?_)
  refine wpAny_bind (wpAny_dictEpoch hod hdd ?_)
  rw [if_neg (by simp)]
  refine wpAny_pure ?_
  simp only [show ¬ ((i : Int) < 0) from by omega, if_false, Int.toNat_natCast, Array.getElem?_eq_none hge]
  refine wpAny_bind ?_
  first | refine wpAny_bind (wpAny_typeNameOfWhole_keyiter hit.typeIs (wpAny_pure ?_)) | refine wpAny_bind (wpAny_typeNameOf_keyiter hit.typeIs (wpAny_pure ?_))
  show wpAny _ _ (setField (.ref it) 0 .none >>= _) _ _ s
  refine wpAny_bind (wpAny_setField ho hd (by simp) ?_)
  show wpAny _ _ (newExc (.type "StopIteration") [] >>= _) _ _ _
  refine wpAny_bind ?_
  simp only [newExc, newTuple]
  refine wpAny_bind (wpAny_newObj_type ?_ (by size_fits))
  refine wpAny_bind (m := firstArgMember _ _) (wpAny_of_eq (a := Value.none) (by first | rfl | (simp only [firstArgMember]; rfl)) ?_)
  refine wpAny_newObj_type ?_ (by size_fits)
  simp only [raiseNew]
  refine wpAny_bind (wpAny_handled ?_)
  first | rw [show A.in1.handled = none from hh] | rw [hh]
  refine wpAny_bind (wpAny_pure (wpAny_throw ?_))
  exact hE _ _ (((Heap.SameBut.update ..).extBut.push _).push _) ⟨_, Heap.get?_push_size _ rfl, rfl⟩
end
theorem drawsKeys {prog : Program} {w : World} {A : Around} (hh : A.handled = none) (it d : Addr) (hne : d ≠ it) (es : Array DictEntry) (ep : Nat) :
    Draws prog w A it [it, d] es.size (fun i v => ∃ h : i < es.size, v = es[i].key) (fun i h => h.IsKeyIter it d i es.size ep ∧ h.DictRaw d es ep) where
  live := fun _ _ st => let ⟨o, ho, _⟩ := st.1; ⟨o, ho⟩
  frame := fun _ _ _ st hk => ⟨st.1.at fun o e => hk it (by simp) o e, st.2.at fun o e => hk d (by simp) o e⟩
  item := fun i s Q E hi st hQ => by
    refine nextOf_key_item st.1 st.2 hi fun h' hit' hs' => ?_
    exact hQ _ h' s.toks ⟨hi, rfl⟩ ⟨hit', st.2.at fun o e => hs'.extBut d o hne e⟩ hs'
  done := fun s Q E st hE => nextOf_key_end hh st.1 st.2 (Nat.le_refl _) hE
end RfE
namespace Rf
open PySem L2 PySem.Spec PyProof.Rows
/-- the keys of the locked dict at d, each in a new pair with its number -/
def Itek (d : Addr) (o : Obj) (kvs : List (Key × V)) : It :=
  ⟨fun i H => H d = some (.frz o (.dK kvs)) ∧ i < kvs.length, fun i H x H' => ∃ T k v, kvs[i]? = some (k, v) ∧ x = .ref T ∧ H T = none ∧ H' = upd H T (.tup [.int (i : Nat), kV k]), fun i H => H d = some (.frz o (.dK kvs)) ∧ kvs.length ≤ i⟩
theorem frzKE {X : Cx} {pins : List (Addr × Obj)} {σ : L2.St} {H : Hp} {s : Shared} {d : Addr} {o : Obj} {kvs : List (Key × V)} (I : Inv X pins σ H s) (h : H d = some (.frz o (.dK kvs))) :
    (d == sysModules) = false ∧ ∃ (es : Array DictEntry) (ep : Nat), s.heap.DictRaw d es ep ∧ o.data = .dict es ep ∧ es.size = kvs.length ∧ ∀ (i : Nat) (k : Key) (v : V), kvs[i]? = some (k, v) → ∃ en, es[i]? = some en ∧ RelV (kV k) en.key := by
  obtain ⟨hs, hgd, hx, es, ep, vs, hdt, hsz, kv, hm⟩ := I.frzK h
  refine ⟨hs, es, ep, ⟨o, hgd, hx, hdt⟩, hdt, hsz, fun i k v e => ?_⟩
  obtain ⟨u, hu, ru⟩ := kv_get kv e
  obtain ⟨o2, es2, h2, _, hd2, hk, hp, hn⟩ := hm
  rw [hgd] at h2
  cases h2
  obtain ⟨rfl, _⟩ := dict_ep hdt hd2
  have hi : i < es2.size := by
    rw [hsz]
    rcases Nat.lt_or_ge i kvs.length with h | h
    · exact h
    · rw [List.getElem?_eq_none h] at e; cases e
  refine ⟨es2[i], Array.getElem?_eq_getElem hi, relV_key ?_⟩
  exact (hp.get? (e := es2[i]) (by simp [hi]) hu).1
theorem turn_enumK {P : Program} {w : World} {K : PySem.W.Frag} {elts : List Expr} {kk : Nat} {tpos : Pos} {d : Addr} {o : Obj} {es : Array DictEntry} {ep : Nat} {kvs : List (Key × V)} (e it : Addr) (hod : o.data = .dict es ep) (hdi : d ≠ it) (hde : d ≠ e) :
    Turn P w K (.Tuple elts kk tpos) (Itek d o kvs) [e, it] e (fun i h => (∃ old, IsEnum h e it ((i : Nat) : Int) old) ∧ h.IsKeyIter it d i kvs.length ep ∧ e ≠ it ∧ i ≤ kvs.length) where
  mem := by simp
  obj := fun i h st b hb => by
    obtain ⟨⟨old, he⟩, ⟨o, ho, hc, hd⟩, _, _⟩ := st
    have e' : b = e ∨ b = it := by simpa using hb
    rcases e' with z | z
    · rw [z]; exact ⟨_, he, fun v q => nomatch q⟩
    · rw [z]; exact ⟨o, ho, fun v q => by rw [hd] at q; cases q⟩
  keep := fun i h h' st k => let ⟨⟨old, he⟩, hi, hne⟩ := st; ⟨⟨old, k e (by simp) _ he⟩, hi.at fun o q => k it (by simp) o q, hne⟩
  item := by
    intro X hP hw hK hc i pins s σ H E I hf st hg
    subst hP hw hK
    obtain ⟨⟨old, he⟩, hit, hne, hin⟩ := st
    obtain ⟨hd, hi⟩ := hg
    obtain ⟨hs, es', ep', raw, hdt, hsz, ent⟩ := frzKE I hd
    obtain ⟨rfl, rfl⟩ := dict_ep hod hdt
    obtain ⟨⟨k, v⟩, hkv⟩ : ∃ p, kvs[i]? = some p := ⟨kvs[i], List.getElem?_eq_getElem hi⟩
    obtain ⟨en, hen, rk⟩ := ent i k v hkv
    have hi' : i < es'.size := by rw [hsz]; exact hi
    have ev : es'[i] = en := by
      rw [Array.getElem?_eq_getElem hi'] at hen
      exact Option.some.inj hen
    rw [← hsz] at hit
    have hel : e < s.heap.objs.size := Heap.lt_size he
    have hil : it < s.heap.objs.size := by obtain ⟨_, q, _⟩ := hit; exact Heap.lt_size q
    refine wpAny_pyNext_enum_itemD (RfE.drawsKeys (A := X.A.in1) (show X.A.in1.handled = none from I.ok.hd hc) it d hdi es' ep') he ⟨hit, raw⟩ hi' hne (by simp [hne, Ne.symm hde]) fun x h' tk hx ho hst hT hz hk => ?_
    obtain ⟨_, rfl⟩ := hx
    refine ⟨_, rfl, wpAny_letOwnedTupleGo_enum (s := { s with heap := h', toks := tk + 1 }) ho fun h'' he' sb => ?_⟩
    rw [ev] at hT
    have hT2 : h''.get? s.heap.objs.size = some { cls := .type "tuple", data := .seq #[.int i tk, en.key] } := (sb.2 _ (Nat.ne_of_gt hel)).trans hT
    have new : ObjOk X.prog X.w (upd H s.heap.objs.size (.tup [.int (i : Nat), kV k])) h'' s.heap.objs.size (.tup [.int (i : Nat), kV k]) :=
      ⟨by show 2 ≤ sizeLine; decide, [.int i tk, en.key], .cons ⟨_, rfl⟩ (.cons rk .nil), ⟨_, hT2, rfl, _, rfl⟩⟩
    have I1 : Inv X pins σ (upd H s.heap.objs.size (.tup [.int (i : Nat), kV k])) { s with heap := h'', toks := tk + 1 } :=
      I.turnedNew (ch := [e, it]) (fun b ob hb q => (sb.2 b (fun z => hb (by simp [z]))).trans (hk b ob (fun z => hb (by simp [z])) (fun z => hb (by simp [z])) q)) hf (Nat.le_refl _) new
    refine ⟨.ref s.heap.objs.size, _, I1, rfl, ⟨_, k, v, hkv, rfl, I.hok.fresh (Nat.le_refl _), rfl⟩, ⟨⟨es'[i].key, ?_⟩, ?_, hne, by omega⟩, fun b hb => ?_⟩
    · have e1 : ((i + 1 : Nat) : Int) = (i : Int) + 1 := by omega
      rw [e1]; exact he'
    · rw [← hsz]
      exact hst.1.at fun o q => (sb.2 it (Ne.symm hne)).trans q
    · have hb' : b < s.heap.objs.size := by
        have e' : b = e ∨ b = it := by simpa using hb
        rcases e' with z | z
        · rw [z]; exact hel
        · rw [z]; exact hil
      rw [upd_ne (Nat.ne_of_lt hb')]
      exact (hf b hb).1
  done := by
    intro X hP hw hK hc i pins s σ H E I hf st hg
    subst hP hw hK
    obtain ⟨⟨old, he⟩, hit, hne, hin⟩ := st
    obtain ⟨hd, hi⟩ := hg
    obtain ⟨hs, es', ep', raw, hdt, hsz, ent⟩ := frzKE I hd
    obtain ⟨rfl, rfl⟩ := dict_ep hod hdt
    obtain ⟨f0, f1, f2, f3, f4, f5⟩ := hf it (by simp)
    have e0 : i = es'.size := by rw [hsz]; exact Nat.le_antisymm hin hi
    rw [← hsz] at hit
    subst e0
    exact wpAny_pyNext_enum_endD (RfE.drawsKeys (A := X.A.in1) (show X.A.in1.handled = none from I.ok.hd hc) it d hdi es' ep') he ⟨hit, raw⟩ fun h' eb => ⟨rfl, I.turned (t' := s.toks) (fun b o hb q => eb b o hb q) f0 f1 f3 f4 f5⟩
  self := fun A i s Q E st h => let ⟨⟨_, he⟩, _⟩ := st; wpAny_pyIter_enum he h
def iEnumU (K : PySem.W.Frag) (ta : TA) : TI := fun σ H R => ta σ H fun vs H1 => (∃ a xs, vs = [.ref a] ∧ SqL K H1 a xs ∧ R (Ite K a) H1) ∨ ∃ d o kvs, vs = [.ref d] ∧ H1 d = some (.frz o (.dK kvs)) ∧ R (Itek d o kvs) H1
theorem pi_enumU {X : Cx} {e : Expr} {ta : TA} {p pos tpos : Pos} {elts : List Expr} {kk : Nat} (hg : Gl X "enumerate") (hm : X.mg "enumerate" = none) (ha : PA X [e] ta) (hs : starEach [e] X.env = [(false, eval e X.env)] := by rfl) :
    PI X (.Tuple elts kk tpos) (.Call (.Name "enumerate" p) [e] [] pos) (iEnumU X.K ta) := by
  refine ⟨fun pins s σ H R I h => ?_⟩
  refine Call_ (ld_blt I hg hm boot_enumerate (PyProof.Rows.callWith_type1 (thn (ha.run pos pins s σ H _ I h) fun us s1 ⟨vs, H1, I1, r1, q1⟩ => ?_) hs rfl))
  rcases q1 with ⟨a, xs, ex, hq, q⟩ | ⟨d, o, kvs, ex, hd, q⟩
  · subst ex
    cases r1 with
    | cons r rr =>
      cases rr
      cases r
      obtain ⟨its, rv, p', hz⟩ := I1.list hq
      refine call_enumerate_list p'.isList fun h' he hit hsz hk => wpAny_pyIter_enum he ?_
      have I2 : Inv X pins σ H1 { s1 with heap := h' } := I1.kept (t' := s1.toks) hk
      refine ⟨s1.heap.objs.size + 1, [s1.heap.objs.size + 1, s1.heap.objs.size], _, _, H1, rfl, I2, turn_enum a (s1.heap.objs.size + 1) s1.heap.objs.size, ⟨⟨.none, he⟩, hit, Nat.succ_ne_self _⟩, fun b hb => ?_, q⟩
      have e' : b = s1.heap.objs.size + 1 ∨ b = s1.heap.objs.size := by simpa using hb
      have hle : s1.heap.objs.size ≤ b := by
        rcases e' with z | z
        · rw [z]; exact Nat.le_add_right _ _
        · rw [z]; exact Nat.le_refl _
      exact I1.fpOk hle (I1.hok.fresh hle)
  · subst ex
    cases r1 with
    | cons r rr =>
      cases rr
      cases r
      obtain ⟨hs', es, ep, raw, hdt, hsz0, ent⟩ := frzKE I1 hd
      have hdl : d < s1.heap.objs.size := by obtain ⟨_, x, _⟩ := raw; exact Heap.lt_size x
      refine RfE.call_enumerate_dict hs' raw fun h' he hit hsz hk => wpAny_pyIter_enum he ?_
      have I2 : Inv X pins σ H1 { s1 with heap := h' } := I1.kept (t' := s1.toks) hk
      refine ⟨s1.heap.objs.size + 1, [s1.heap.objs.size + 1, s1.heap.objs.size], _, _, H1, rfl, I2, turn_enumK (s1.heap.objs.size + 1) s1.heap.objs.size hdt (Nat.ne_of_lt hdl) (Nat.ne_of_lt (Nat.lt_succ_of_lt hdl)), ⟨⟨.none, he⟩, ?_, Nat.succ_ne_self _, Nat.zero_le _⟩, fun b hb => ?_, q⟩
      · rw [← hsz0]; exact hit
      have e' : b = s1.heap.objs.size + 1 ∨ b = s1.heap.objs.size := by simpa using hb
      have hle : s1.heap.objs.size ≤ b := by
        rcases e' with z | z
        · rw [z]; exact Nat.le_add_right _ _
        · rw [z]; exact Nat.le_refl _
      exact I1.fpOk hle (I1.hok.fresh hle)
end Rf
/-! sum(d.values()); d.pop((a, b)); dict methods by values. -/
namespace Rf
open PySem L2 PySem.Spec PyProof.Rows
theorem KT.drop {H : Hp} {kvs : List (List Key × V)} {xs : List (List Key × Addr × Value)} (r : KT H kvs xs) (k : List Key) : KT H (dropK kvs k) (DT.dropH xs k) := by
  induction r with
  | nil => exact .nil
  | @cons p q ps qs h t ih =>
    show KT H (List.filter _ (p :: ps)) (List.filter _ (q :: qs))
    by_cases e : p.1 = k
    · rw [List.filter_cons_of_neg (by simp [e]), List.filter_cons_of_neg (by simp [← h.1, e])]
      exact ih
    · rw [List.filter_cons_of_pos (by simp [e]), List.filter_cons_of_pos (by simp [← h.1, e])]
      exact .cons h ih
section
open PySem.W
variable {K : Type} [DecidableEq K] {prog : Program} {w : World} {knd : HeapKind prog w K}
theorem meetsPop1 {d b : Addr} {k : K} (hd : (d == sysModules) = false) :
    MeetsIn prog w (Builtin.«dict.pop» ⟨[.ref d, .ref b], []⟩) (fun A R s => ∃ xs p, knd.room A.in1 ∧ knd.is s.heap k b ∧ s.heap.DictOfH knd d xs ∧ xs.length ≤ sizeLine ∧ atKey xs k = some p ∧
      ∀ h' tk, h'.DictOfH knd d (DT.dropH xs k) → Heap.SameBut d s.heap h' → R (.ok (.ret p.2)) { s with heap := h', toks := tk }) :=
  .of_wp fun A R s ⟨xs, p, hu, hkey, hm, hsz, hp, hsome⟩ => by
    obtain ⟨o, es, ep, ho, hc, hdat, he, his, hn⟩ := id hm
    have hes : es.size = xs.length := size_of_entries he
    have hpart : (keyPart (Value.ref b)).isSome = false := rfl
    unfold Builtin.«dict.pop»
    refine wpAny_bind ?_
    unfold Builtin.Dict.keyAndDefault
    refine wpAny_bind (wpAny_notOrdered_dict hm.typeIs ?_)
    show wpAny _ _ (pure (d, Value.ref b, none)) _ _ s
    refine wpAny_pure ?_
    simp only [hpart, Bool.false_eq_true, if_false]
    refine wpAny_bind (wpAny_dictEntries ho hdat (wpAny_bind (wpAny_pure ?_)))
    cases hem : es.isEmpty with
    | true =>
      have h0 : xs = [] := by
        have z : es.size = 0 := by simpa using hem
        exact List.length_eq_zero_iff.mp (by omega)
      rw [h0] at hp
      cases hp
    | false =>
      simp only [Bool.false_eq_true, if_false]
      refine wpAny_bind (DT.takeH hu hkey hm hsz (fun hno => ?_) fun p' e hp' hev h' hm' hs' => ?_)
      · rw [hp] at hno; cases hno
      · rw [hp] at hp'
        cases hp'
        simp only [Option.isNone_some, Bool.false_eq_true, if_false]
        exact wpAny_bind (wpAny_letGo (wpAny_pure ⟨e.val, rfl, by rw [hev]; exact hsome h' _ hm' hs'⟩))
end
section
variable {X : Cx} {pins : List (Addr × Obj)} {σ : L2.St} {H : Hp} {s : Shared} {a b : Addr} {v : V} {A : Around} {E : Value → Shared → Prop}
theorem d_popT {kvs : List (List Key × V)} {k : List Key} {Q : Value → Shared → Prop} (hu : A.units + 2 < cLine) (I : Inv X pins σ H s) (e : H a = some (.dT kvs)) (eb : H b = some (.tup (k.map kV))) (l : valV kvs k = some v)
    (h : ∀ w' s', Inv X pins σ (L2.upd H a (.dT (dropK kvs k))) s' → RelV v w' → Q w' s') : wpAny (model X.prog X.w) A (call (.builtin "dict.pop") [.ref a, .ref b]) Q E s := by
  obtain ⟨z, hd, xs, rel, dd⟩ := dt_of I.hok e
  obtain ⟨w', hw, rw'⟩ := RelO.some_of (v := v) (o := (atKey xs k).map (·.2)) (by rw [← l]; exact rel.val k)
  obtain ⟨p, hp, hp2⟩ := Option.map_eq_some_iff.mp hw
  refine call_meetsIn PySem.F.slot_dict_pop dd.typeIs PySem.F.entry_dict_pop (PySem.F.args_dict_pop_2 _ _) (meetsPop1 (knd := tupleKind (mixKind X.prog X.w)) hd)
    ⟨xs, p, tupleKind_room_in1 (by omega), key_of I.hok eb, dd, by rw [← Paired.length rel]; exact z, hp, fun h' tk dd' hs => ?_⟩
  rw [hp2]
  refine h w' _ ?_ rw'
  obtain ⟨q, es, ep, hq, h2, h3, h4, _, h5⟩ := dd'
  refine d_write I (by rw [e]; exact True.intro) hs ⟨q, hq⟩ ⟨Nat.le_trans (List.length_filter_le _ _) z, hd, _, (KT.drop rel k).keeps fun c ys ec => ?_, q, es, ep, hq, h2, h3, h4, h5⟩
  rw [upd_ne (ne_of ec e (fun z => nomatch z))]
  exact ec
end
/-! ### sums of values -/
theorem preSum_list (is : List Int) : preSum (fun i => is.getD i 0) is.length = is.sum := by
  have h : ∀ j, preSum (fun i => is.getD i 0) j = (is.take j).sum := by
    intro j
    induction j with
    | zero => simp [preSum]
    | succ j ih => rw [preSum, ih, PySem.sum_take_succ]
  rw [h, List.take_of_length_le (Nat.le_refl _)]
/-- a dict's values, all whole numbers -/
def DInts (H : Hp) (a : Addr) (is : List Int) : Prop := (∃ kvs, H a = some (.dK kvs) ∧ kvs.map (·.2) = is.map V.int) ∨ ∃ kvs, H a = some (.dT kvs) ∧ kvs.map (·.2) = is.map V.int
theorem dInts_raw {X : Cx} {pins : List (Addr × Obj)} {σ : L2.St} {H : Hp} {s : Shared} {a : Addr} {is : List Int} (I : Inv X pins σ H s) (h : DInts H a is) :
    (a == sysModules) = false ∧ ∃ es ep, s.heap.DictRaw a es ep ∧ es.size = is.length ∧ ∀ i (hi : i < es.size), ∃ t, es[i].val = .int (is.getD i 0) t := by
  have key : ∀ {κ : Type} {kvs : List (κ × V)} {i : Nat} {k : κ} {v : V}, kvs.map (·.2) = is.map V.int → kvs[i]? = some (k, v) → v = .int (is.getD i 0) := by
    intro κ kvs i k v e hk
    have e1 : (kvs.map (·.2))[i]? = some v := by rw [List.getElem?_map, hk] <;> rfl
    rw [e, List.getElem?_map] at e1
    obtain ⟨j, hj, e2⟩ := Option.map_eq_some_iff.mp e1
    rw [← e2, List.getD_eq_getElem?_getD, hj] <;> rfl
  rcases h with ⟨kvs, e, hv⟩ | ⟨kvs, e, hv⟩
  · obtain ⟨z, hd, vs, rel, o, es, ep, ho, hx, hdt, hk, hp, hn⟩ := dk_of I.hok e
    have hl : is.length = kvs.length := by have := congrArg List.length hv; simpa using this.symm
    have hl2 : es.size = is.length := by
      have l1 := hp.length
      have l2 : kvs.length = vs.length := Paired.length rel
      rw [Array.length_toList] at l1
      omega
    refine ⟨hd, es, ep, ⟨o, ho, hx, hdt⟩, hl2, fun i hi => ?_⟩
    obtain ⟨⟨k, v⟩, hkv⟩ : ∃ p, kvs[i]? = some p := ⟨kvs[i]'(by omega), List.getElem?_eq_getElem (by omega)⟩
    obtain ⟨u, hu, ru⟩ := kv_get rel hkv
    have ev := (hp.get? (e := es[i]) (by simp [hi]) hu).2
    rw [key hv hkv] at ru
    obtain ⟨t, rt⟩ := ru
    exact ⟨t, ev.trans rt⟩
  · obtain ⟨z, hd, xs, rel, o, es, ep, ho, hx, hdt, he, _, hn⟩ := dt_of I.hok e
    have hl : is.length = kvs.length := by have := congrArg List.length hv; simpa using this.symm
    have hl2 : es.size = is.length := by
      have l1 : es.size = xs.length := size_of_entries he
      have l2 : kvs.length = xs.length := Paired.length rel
      omega
    refine ⟨hd, es, ep, ⟨o, ho, hx, hdt⟩, hl2, fun i hi => ?_⟩
    obtain ⟨⟨k, v⟩, hkv⟩ : ∃ p, kvs[i]? = some p := ⟨kvs[i]'(by omega), List.getElem?_eq_getElem (by omega)⟩
    obtain ⟨b, hb, e1, e2, e3⟩ := paired_get rel hkv
    have q := entry_at he i
    rw [hb, Array.getElem?_eq_getElem hi] at q
    have ev : es[i].val = b.2.2 := by
      have q2 := Option.some.inj q
      rw [q2] <;> rfl
    rw [key hv hkv] at e3
    obtain ⟨t, rt⟩ := e3
    exact ⟨t, ev.trans rt⟩
def tSumVals (td : TE) : TE := fun σ H Q => td σ H fun x H1 => ∃ a is, x = .ref a ∧ DInts H1 a is ∧ Q (.int is.sum) H1
theorem pe_sumVals {X : Cx} {o : Expr} {p pos apos mpos : Pos} {td : TE} (hc : X.calm = true) (hg : Gl X "sum") (hm : X.mg "sum" = none) (hd : PE X o td) (hbase : attributeBase o "values" X.env (eval o X.env) = eval o X.env := by rfl) (hline : (apos.endLine == mpos.line) = true := by rfl)
    (hse : starEach [Expr.Call (.Attribute o "values" apos) [] [] mpos] X.env = [(false, eval (Expr.Call (.Attribute o "values" apos) [] [] mpos) X.env)] := by rfl) :
    PE X (.Call (.Name "sum" p) [.Call (.Attribute o "values" apos) [] [] mpos] [] pos) (tSumVals td) := by
  refine ⟨fun pins s σ H Q I h => ?_⟩
  refine wpAny_Call_Name_kw (ld_blt I hg hm (u := .builtin "sum") (by first | rfl | decide +kernel) ?_ (by first | decide +kernel | decide) (by first | decide +kernel | decide))
  rw [hse]
  refine PySem.callWith_builtin1 (wpAny_Call_method0_late hbase hline (thn (hd.run pins s σ H _ I h) fun v s1 ⟨x, H1, I1, r1, a, is, ex, ha, q⟩ => ?_))
  subst ex
  obtain rfl : v = Value.ref a := r1
  obtain ⟨hsys, es, ep, raw, hsz, hval⟩ := dInts_raw I1 ha
  refine ⟨"dict", "dict.values", F.plainAttrs_dict, F.slot_dict_values, F.type_dict_values, Heap.DictRaw.typeIs raw, rawNoDict raw, Calls.callWith_builtin rfl (PySem.evalArgs_none ?_)⟩
  refine call_meetsIn F.slot_dict_values (Heap.DictRaw.typeIs raw) F.entry_dict_values (F.args_dict_values_1 _) (meets_dict_values_raw a hsys) ⟨⟨es, ep, raw⟩, ?_⟩
  have k1 : ∀ b u, s1.heap.get? b = some u → (s1.heap.push { cls := .type "dict_values", data := .fields #[.ref a] }).get? b = some u := fun b u e => Heap.get?_push_of_some _ e
  have raw1 : (s1.heap.push { cls := .type "dict_values", data := .fields #[.ref a] }).DictRaw a es ep := raw.at fun o e => k1 a o e
  have hlt : a < s1.heap.objs.size := by obtain ⟨_, x, _⟩ := raw; exact Heap.lt_size x
  have hsz1 : (s1.heap.push { cls := .type "dict_values", data := .fields #[.ref a] }).objs.size = s1.heap.objs.size + 1 := Heap.size_push _ _
  refine call_sum_walkG (wpAny_pyIter_values_raw (v := s1.heap.objs.size) (d := a) ⟨_, Heap.get?_push_size _ rfl, rfl, rfl⟩ raw1 ?_)
  refine ⟨_, _, _, _, _, _, fun i => is.getD i 0, rfl, Walks.rawValues (A := X.A.in1) (show X.A.in1.handled = none from I.ok.hd hc) (s1.heap.push { cls := .type "dict_values", data := .fields #[.ref a] }).objs.size a (by rw [hsz1]; exact Nat.ne_of_lt (Nat.lt_succ_of_lt hlt)) es ep,
    ⟨⟨_, Heap.get?_push_size _ rfl, rfl, rfl⟩, raw1.at fun u e => Heap.get?_push_of_some _ e⟩, fun b hb => ?_, fun i v ⟨hi, ev⟩ => by rw [ev]; exact hval i hi, fun h' tk t' hk => ?_⟩
  · have e : b = (s1.heap.push { cls := .type "dict_values", data := .fields #[.ref a] }).objs.size ∨ b = a := by simpa using hb
    rw [Heap.size_push]
    rcases e with e | e
    · rw [e]; exact Nat.lt_succ_self _
    · rw [e, hsz1]; exact Nat.lt_succ_of_lt (Nat.lt_succ_of_lt hlt)
  · rw [hsz, preSum_list]
    refine ⟨.int is.sum, H1, I1.kept fun b o e => hk b o ?_ (Heap.get?_push_of_some _ (k1 b o e)), ⟨t', rfl⟩, q⟩
    have hb := Heap.lt_size e
    simp only [List.mem_singleton]
    rw [hsz1]
    exact Nat.ne_of_lt (Nat.lt_succ_of_lt hb)
/-! ### methods -/
def rDGetM : V → List V → Hp → VK → Prop := fun x xs H Q => match xs with
  | [y] => ∃ a o, x = .ref a ∧ DGet H a y o ∧ Q (o.getD .non) H
  | [y, z] => ∃ a o, x = .ref a ∧ DGet H a y o ∧ Q (o.getD z) H
  | _ => False
theorem mt_dget {X : Cx} (hu : X.A.units + 1 < cLine) : MtR X "dict.get" rDGetM := by
  intro pins s σ H x xs v us Q I rx rs h
  unfold rDGetM at h
  split at h
  · obtain ⟨a, o, rfl, g, q⟩ := h
    cases rx
    cases rs with
    | cons ry rt =>
      cases rt
      exact d_get1 hu I g ry fun w' s' I' rw' => ⟨_, H, I', rw', q⟩
  · obtain ⟨a, o, rfl, g, q⟩ := h
    cases rx
    cases rs with
    | cons ry rt =>
      cases rt with
      | cons rz rt =>
        cases rt
        exact d_get2 hu I g ry rz fun w' s' I' rw' => ⟨_, H, I', rw', q⟩
  · exact h.elim
def rDPopM : V → List V → Hp → VK → Prop := fun x xs H Q => ∃ a y v, x = .ref a ∧ xs = [y] ∧
  ((∃ kvs k, H a = some (.dK kvs) ∧ y = kV k ∧ valV kvs k = some v ∧ Q v (L2.upd H a (.dK (dropK kvs k)))) ∨ ∃ kvs k b, H a = some (.dT kvs) ∧ y = .ref b ∧ H b = some (.tup (k.map kV)) ∧ valV kvs k = some v ∧ Q v (L2.upd H a (.dT (dropK kvs k))))
theorem mt_dpop {X : Cx} (hu : X.A.units + 2 < cLine) : MtR X "dict.pop" rDPopM := by
  intro pins s σ H x xs u us Q I rx rs h
  obtain ⟨a, y, v, rfl, rfl, h⟩ := h
  cases rx
  cases rs with
  | cons ry rt =>
    cases rt
    rcases h with ⟨kvs, k, e, rfl, l, q⟩ | ⟨kvs, k, b, e, rfl, eb, l, q⟩
    · exact d_pop I e ry l (.inl rfl) fun w' s' I' rw' => ⟨_, _, I', rw', q⟩
    · cases ry
      exact d_popT hu I e eb l fun w' s' I' rw' => ⟨_, _, I', rw', q⟩
def rDClearM : V → List V → Hp → VK → Prop := fun x xs H Q => ∃ a kvs, x = .ref a ∧ xs = [] ∧ H a = some (.dK kvs) ∧ Q .non (L2.upd H a (.dK []))
theorem mt_dclear {X : Cx} : MtR X "dict.clear" rDClearM := by
  intro pins s σ H x xs u us Q I rx rs h
  obtain ⟨a, kvs, rfl, rfl, e, q⟩ := h
  cases rx
  cases rs
  exact d_clear I e fun s' I' => ⟨.non, _, I', rfl, q⟩
/-- list(d) -/
def rListDU : List V → Hp → VK → Prop := fun xs H Q => rListD xs H Q ∨ ∃ d kvs, xs = [V.ref d] ∧ Rd H d (.dT kvs) ∧ ∀ p bs, H p = none → IsKeys H kvs bs → Q (.ref p) (L2.upd H p (.lst (bs.map V.ref)))
theorem call_listDU {X : Cx} (hc : X.calm = true) : CallR X (.type "list") rListDU := callOr (call_list_dK hc) (call_list_dT hc)
end Rf
namespace Rf
open PySem L2 PySem.Spec PyProof.Rows
abbrev EZ : L2.St → XK := fun _ => E0
/-! ### calls whose exceptions are wished for at the caller's slots -/
section
variable {X : Cx} {CX : CXT} {k : Nat} {f C : Addr} {fd : FuncData} {ps : List Str} {sp : Sp} {dvs : List V} {ds : List Value} {E : L2.St → XK} {x m : Str} {p pos apos : Pos} {e o : Expr} {es : List Expr} {ta : TE} {t : TA}
def tMethS (C : Addr) (m : Str) (sp : Sp) (dvs : List V) (E : L2.St → XK) (ta : TE) (t : TA) : TE := fun σ H Q => ta σ H fun x H1 => ∃ a dx fs, x = .ref a ∧ H1 a = some (.ins C dx fs) ∧ fs.lookup m = none ∧ t σ H1 fun vs H2 => sp (x :: (vs ++ dvs)) H2 Q (E σ)
def tMakeS (C : Addr) (sp : Sp) (dvs : List V) (E : L2.St → XK) (t : TA) : TE := fun σ H Q => t σ H fun vs H1 => ∀ x dx, H1 x = none → H1 dx = none → dx ≠ x → sp (.ref x :: (vs ++ dvs)) (upd (upd H1 dx (.own x)) x (.ins C dx [])) (fun v H2 => v = .non ∧ Q (.ref x) H2) (E σ)
theorem pe_callSD0 (F : FnOk X.prog X.w X.K X.mg X.base CX k f fd ps sp) (hr : Room k X.A) (hg : Gl X x) (hm : X.mg x = some (.ref f)) (hk : PySem.W.keepIn X.K (.ref f) = true) (hb : Binds X.K fd ps ds) (hd : Vals dvs ds) (hx : ∀ σ, PassesAt CX X σ (E σ))
    (hdb : (x == ("__debug__" : Str)) = false := by decide) : PE X (.Call (.Name x p) [] [] pos) (tCallSD sp dvs E tNil) := by
  refine ⟨fun pins s σ H Q I h => ?_⟩
  refine wpAny_Call_Name_kw (ld_glob I hg hm ?_ hdb)
  exact PySem.W.callWith_K0 I.kIn hk (run_fnSD (us := []) F hr hb hd (hx σ) I .nil h)
theorem pe_methSD {pl : Sem Bool} (he : PE X o ta) (c : Cls X.K C) (hm : Meth X.K C m f) (F : FnOk X.prog X.w X.K X.mg X.base CX k f fd ps sp) (hr : Room k X.A) (hb : Binds X.K fd ps ds) (hd : Vals dvs ds) (hx : ∀ σ, PassesAt CX X σ (E σ)) (ha : PA X (e :: es) t)
    (hst : starEach (e :: es) X.env = (false, eval e X.env) :: starEach es X.env := by rfl) (hpl : (backTo pos (starEach es X.env)).any (·.1) = false := by rfl)
    (ht : eval (.Call (.Attribute o m apos) (e :: es) [] pos) X.env = (do
      let ov ← eval o X.env
      standAt apos.atName
      let (f, first) ← holding [ov] (getMethod ov m pl)
      callWith pos f first (backTo pos (starEach (e :: es) X.env)) (backToKw pos (keywordEach [] X.env))) := by rfl) :
    PE X (.Call (.Attribute o m apos) (e :: es) [] pos) (tMethS C m sp dvs E ta t) := by
  refine ⟨fun pins s σ H Q I h => ?_⟩
  refine PySem.W.methodCall_KW (pl := pl) (thn (he.run pins s σ H _ I h) fun u s1 ⟨x, H1, I1, rx, a, dx, fs, ex, ea, l, q⟩ => ?_) ht
  subst ex
  obtain rfl : u = Value.ref a := rx
  refine getmeth_ok I1 ea c hm l ?_
  refine PySem.W.callWith_K (first := [.ref a]) (h₀ := X.base) I.ok.mod.kin hm.kp (thn (ha.run pos pins s1 σ H1 _ I1 q) fun us s2 ⟨vs, H2, I2, r, q2⟩ => ⟨I2.kIn, ?_⟩) hst hpl
  exact run_fnSD (us := .ref a :: us) (vs := .ref a :: vs) F hr hb hd (hx σ) I2 (.cons rfl r) q2
theorem pe_methSD0 {pl : Sem Bool} (he : PE X o ta) (c : Cls X.K C) (hm : Meth X.K C m f) (F : FnOk X.prog X.w X.K X.mg X.base CX k f fd ps sp) (hr : Room k X.A) (hb : Binds X.K fd ps ds) (hd : Vals dvs ds) (hx : ∀ σ, PassesAt CX X σ (E σ))
    (ht : eval (.Call (.Attribute o m apos) [] [] pos) X.env = (do
      let ov ← eval o X.env
      standAt apos.atName
      let (f, first) ← holding [ov] (getMethod ov m pl)
      callWith pos f first (backTo pos (starEach [] X.env)) (backToKw pos (keywordEach [] X.env))) := by rfl) :
    PE X (.Call (.Attribute o m apos) [] [] pos) (tMethS C m sp dvs E ta tNil) := by
  refine ⟨fun pins s σ H Q I h => ?_⟩
  refine PySem.W.methodCall_KW (pl := pl) (thn (he.run pins s σ H _ I h) fun u s1 ⟨x, H1, I1, rx, a, dx, fs, ex, ea, l, q⟩ => ?_) ht
  subst ex
  obtain rfl : u = Value.ref a := rx
  refine getmeth_ok I1 ea c hm l ?_
  exact PySem.W.callWith_K0 (first := [.ref a]) I1.kIn hm.kp (run_fnSD (us := [.ref a]) (vs := [.ref a]) F hr hb hd (hx σ) I1 (.cons rfl .nil) q)
theorem run_makeSD {pins : List (Addr × Obj)} {σ : L2.St} {H : Hp} {s : Shared} {Q : VK} {us : List Value} {vs : List V} (M : Mk X.K C f) (F : FnOk X.prog X.w X.K X.mg X.base CX k f fd ps sp) (hr : Room (k + 1) X.A) (hb : Binds X.K fd ps ds) (hd : Vals dvs ds)
    (hx : PassesAt CX X σ (E σ)) (I : Inv X pins σ H s) (r : Vals vs us)
    (h : ∀ x dx, H x = none → H dx = none → dx ≠ x → sp (.ref x :: (vs ++ dvs)) (upd (upd H dx (.own x)) x (.ins C dx [])) (fun v H2 => v = .non ∧ Q (.ref x) H2) (E σ)) :
    wpAny (model X.prog X.w) X.A (call (.ref C) us) (EP X pins σ Q) X.xe s := by
  have hq := h (s.heap.objs.size + 1) s.heap.objs.size (I.hok.fresh (Nat.le_succ _)) (I.hok.fresh (Nat.le_refl _)) (Nat.ne_of_lt (Nat.lt_succ_self _))
  have I2 := Inv.made (C := C) I
  have r2 : Vals (V.ref (s.heap.objs.size + 1) :: (vs ++ dvs)) (Value.ref (s.heap.objs.size + 1) :: (us ++ ds)) := .cons rfl (r.append hd)
  have hl : (Value.ref (s.heap.objs.size + 1) :: us ++ ds).length = ps.length := by
    have e := r2.length
    rw [F.len _ _ _ _ hq] at e
    exact e.symm
  refine wpAny_call (make_map (f := f) I.kIn M.makes M.init (beq_iff_eq.mp M.fn) (codeAny_mono (F.run _ X.stack _ _ ⟨Value.ref (s.heap.objs.size + 1) :: us, []⟩ (Value.ref (s.heap.objs.size + 1) :: (us ++ ds)) _ _ (E σ) (hr.make C us [])
    (I2.env0.make C us []) (hb _ (Value.ref (s.heap.objs.size + 1) :: us) I2.kIn hl) r2 hq) fun r s' hq' => ?_))
  cases r with
  | error e => exact hx pins _ _ e s' I2 hq'
  | ok fl =>
    cases fl with
    | ret u =>
      obtain ⟨v, H', I3, rv, ev, q3⟩ := I2.after hq'
      subst ev
      exact ⟨rv, ⟨V.ref (s.heap.objs.size + 1), H', I3, rfl, q3⟩⟩
    | next => exact False.elim hq'
    | brk => exact False.elim hq'
    | cont => exact False.elim hq'
theorem pe_makeSD (M : Mk X.K C f) (F : FnOk X.prog X.w X.K X.mg X.base CX k f fd ps sp) (hr : Room (k + 1) X.A) (hg : Gl X x) (hm : X.mg x = some (.ref C)) (hb : Binds X.K fd ps ds) (hd : Vals dvs ds) (hx : ∀ σ, PassesAt CX X σ (E σ))
    (ha : PA X (e :: es) t) (hdb : (x == ("__debug__" : Str)) = false := by decide) (he : starEach (e :: es) X.env = (false, eval e X.env) :: starEach es X.env := by rfl) (hpl : (backTo pos (starEach es X.env)).any (·.1) = false := by rfl) :
    PE X (.Call (.Name x p) (e :: es) [] pos) (tMakeS C sp dvs E t) := by
  refine ⟨fun pins s σ H Q I h => ?_⟩
  refine wpAny_Call_Name_kw (ld_glob I hg hm ?_ hdb)
  refine PySem.W.callWith_K (h₀ := X.base) I.ok.mod.kin M.kp (thn (ha.run pos pins s σ H _ I h) fun us s1 ⟨vs, H1, I1, r, q⟩ => ⟨I1.kIn, ?_⟩) he hpl
  exact run_makeSD M F hr hb hd (hx σ) I1 r q
theorem pe_makeSD0 (M : Mk X.K C f) (F : FnOk X.prog X.w X.K X.mg X.base CX k f fd ps sp) (hr : Room (k + 1) X.A) (hg : Gl X x) (hm : X.mg x = some (.ref C)) (hb : Binds X.K fd ps ds) (hd : Vals dvs ds) (hx : ∀ σ, PassesAt CX X σ (E σ))
    (hdb : (x == ("__debug__" : Str)) = false := by decide) : PE X (.Call (.Name x p) [] [] pos) (tMakeS C sp dvs E tNil) := by
  refine ⟨fun pins s σ H Q I h => ?_⟩
  refine wpAny_Call_Name_kw (ld_glob I hg hm ?_ hdb)
  exact PySem.W.callWith_K0 I.kIn M.kp (run_makeSD (us := []) M F hr hb hd (hx σ) I .nil h)
end
/-! ### exceptions of own classes -/
/-- a class whose __init__ is ValueError's -/
structure BaseE (K : PySem.W.Frag) (C : Addr) : Prop where
  ga : PySem.W.specialIn K (.ref C) "__getattribute__" = some (some (.builtin "type.__getattribute__"))
  rd : PySem.W.readsIn K C (.type "type") = true
  ty : PySem.W.typeIn K (.ref C) = some (.type "type")
  fi : PySem.W.findCls K (.ref C) (.type "type") "__init__" = some (.val (.builtin "ValueError.__init__"))
def baseB (K : PySem.W.Frag) (C : Addr) : Bool := decide (PySem.W.specialIn K (.ref C) "__getattribute__" = some (some (.builtin "type.__getattribute__"))) && (PySem.W.readsIn K C (.type "type") && decide (PySem.W.typeIn K (.ref C) = some (.type "type")))
section
variable {X : Cx} {e : Expr} {es : List Expr} {ta : TA} {p1 p2 pos : Pos}
/-- C.__init__(self, ..), C an own class of exceptions without an __init__ of its own -/
theorem pe_cutinit {b : Str} {C : Addr} {pl : Sem Bool} (hg : Gl X b) (hm : X.mg b = some (.ref C)) (hdb : (b == ("__debug__" : Str)) = false) (hB : BaseE X.K C) (ha : PA X (e :: es) ta)
    (hc : eval (.Call (.Attribute (.Name b p1) "__init__" p2) (e :: es) [] pos) X.env = (do
      let ov ← eval (.Name b p1) X.env
      standAt p2.atName
      let (f, first) ← holding [ov] (getMethod ov "__init__" pl)
      callWith pos f first (backTo pos (starEach (e :: es) X.env)) (backToKw pos (keywordEach [] X.env))) := by rfl)
    (he : starEach (e :: es) X.env = (false, eval e X.env) :: starEach es X.env := by rfl) (hpl : (backTo pos (starEach es X.env)).any (·.1) = false := by rfl) :
    PE X (.Call (.Attribute (.Name b p1) "__init__" p2) (e :: es) [] pos) (tVeI X.K ta) := by
  refine ⟨fun pins s σ H Q I h => ?_⟩
  refine PySem.W.methodCall_KW (ld_glob I hg hm ?_ hdb) hc
  obtain ⟨m, fr⟩ := I.fr
  refine PySem.W.method_of_cls fr I.ok.mod.kin hB.ga ?_
  refine PySem.W.cls_val fr I.ok.mod.kin hB.ty hB.rd hB.fi (by decide +kernel) ?_
  show wpAny _ _ (callWith pos (Value.builtin "ValueError.__init__") [] (backTo pos (starEach (e :: es) X.env)) []) _ _ _
  refine PyProof.Rows.callWith_method1 (thn (ha.run pos pins _ σ H _ (I.tok _) h) fun us s1 ⟨vs, H1, I1, r1, a, C, ws, ev, hl, T, ea, q⟩ => ?_) he hpl
  subst ev
  cases r1 with
  | @cons _ u0 _ ur ra rw' =>
    obtain rfl : u0 = Value.ref a := ra
    have hlen : ur.length ≤ sizeLine := by
      rw [← Paired.length rw', sizeLine_eq]
      omega
    exact oinit_ok T I1 ea hlen fun s' J => ⟨.non, H1, J, rfl, q⟩
end
end Rf
/-! Within an except suite: what is known of the caught exception, its class asked, its fields read; defs called there. -/
namespace Rf
open PySem L2 PySem.Spec PyProof.Rows
abbrev SpE := Addr → Value → Option Addr → Sp
/-- a is the exception that is handled, of class c, with the dict d -/
def EvC (X : Cx) (a : Addr) (c : Value) (d : Option Addr) : Prop := X.A.handled = some (.ref a) ∧ ∃ oe, (a, oe) ∈ X.pn ∧ Zc c d oe ∧ ∃ vs, oe.data = .fields vs
/-- what isinstance wants to know of the exception's class -/
structure IsC (K : PySem.W.Frag) (D : Addr) : Prop where
  cl : (PySem.W.clsIn K D).isSome = true
  ga : PySem.W.findIn K (.ref D) "__getattribute__" = some (some (.builtin "BaseException.__getattribute__"))
  gt : PySem.W.findIn K (.ref D) "__getattr__" = some none
  sb : PySem.W.subIn K (.ref D) (.type "BaseException") = some true
  ca : PySem.W.findIn K (.ref D) "__class__" = some (some (.builtin "object.__class__"))
  sp : PySem.W.specialIn K (.builtin "object.__class__") "__get__" = some (some (.builtin "getset_descriptor.__get__"))
  tk : PySem.W.takesIn K (.builtin "object.__class__") = some true
  mr : PySem.W.mroIn K D (.type "object") = some true
  hd : PySem.W.hasDictIn K D = true
def dicE (H : Hp) : Option Addr → Prop
  | none => True
  | some dd => ∃ fs, H dd = some (.xd fs)
def cvals : List V → List Value → Prop
  | [], [] => True
  | v :: vs, u :: us => (∀ w, RelV v w → w = u) ∧ cvals vs us
  | _, _ => False
theorem cvals_eq : ∀ {vs : List V} {us ws : List Value}, cvals vs us → Vals vs ws → ws = us
  | [], [], _, _, .nil => rfl
  | _ :: _, _ :: _, _, ⟨h1, h2⟩, .cons r rr => by rw [h1 _ r, cvals_eq h2 rr]
/-- isinstance(e, c), isinstance(e, (c, ..)) of the caught exception -/
@[irreducible] def rIsX (K : PySem.W.Frag) (a : Addr) (c : Value) (d : Option Addr) : List V → Hp → VK → Prop := fun xs H Q => ∃ (D : Addr) (y : V) (b : Bool), xs = [.ref a, y] ∧ c = .ref D ∧ IsC K D ∧ dicE H d ∧
  ((∃ cv, (∀ u, RelV y u → u = cv) ∧ PySem.W.kitOne K c cv = some b) ∨ (∃ t cs us, y = .ref t ∧ SqT K H t cs ∧ cvals cs us ∧ PySem.W.kitAny K c us = some b)) ∧ Q (.bl b) H
theorem instE {X : Cx} {pins : List (Addr × Obj)} {σ : L2.St} {H : Hp} {s : Shared} {a D : Addr} {d : Option Addr} (I : Inv X pins σ H s) (ev : EvC X a (.ref D) d) (hd : dicE H d) : ∃ oe od, PySem.W.InstAt s.heap a oe D od ∧ (d = none → od = none) ∧ ∀ dd, d = some dd → ∃ o, od = some o ∧ s.heap.get? dd = some o := by
  obtain ⟨_, oe, hp, hz, vs, hv⟩ := ev
  obtain ⟨hget, _⟩ := I.pin (a, oe) (List.mem_append_left _ hp)
  have hn : PySem.W.notCls oe = true := by
    unfold PySem.W.notCls
    rw [hv]
  cases d with
  | none => exact ⟨oe, none, ⟨hget, hz.1, hn, by rw [hz.2]; exact trivial⟩, fun _ => rfl, fun dd z => nomatch z⟩
  | some dd =>
    obtain ⟨fs, hfs⟩ := hd
    obtain ⟨mA, hns, _⟩ := (show ObjOk X.prog X.w H s.heap dd (.xd fs) from I.hok dd _ hfs)
    obtain ⟨o, ho, _⟩ := lookIn_ns hns
    refine ⟨oe, some o, ⟨hget, hz.1, hn, by rw [hz.2]; exact ho⟩, (by intro z; cases z), ?_⟩
    intro d' z
    cases z
    exact ⟨o, rfl, ho⟩
theorem call_isX {X : Cx} {a : Addr} {c : Value} {d : Option Addr} (ev : EvC X a c d) : CallR X (.builtin "isinstance") (rIsX X.K a c d) := by
  intro pins s σ H xs us Q I r h
  unfold rIsX at h
  obtain ⟨D, y, b, rfl, rfl, C, hd, h, q⟩ := h
  obtain ⟨oe, od, J, _, _⟩ := instE I ev hd
  cases r with
  | cons rx rr =>
    cases rr with
    | cons rt rr =>
      cases rr
      cases rx
      have Z := PySem.W.kitx_exc (x := a) (ox := oe) (od := od) C.cl C.ga C.gt C.sb C.ca C.sp C.tk C.mr
      have fin : ∀ tk, EP X pins σ Q (.bool b) { s with toks := tk } := fun tk => ⟨.bl b, H, I.kept (t' := tk) fun _ _ z => z, rfl, q⟩
      rcases h with ⟨cv, hcv, e⟩ | ⟨t, cs, us, rfl, ht, hc, e⟩
      · have ec := hcv _ rt
        subst ec
        exact PySem.W.kia_one Z I.kIn J e (fun z => nomatch z) fin
      · cases rt
        obtain ⟨its, rv, pl, _⟩ := I.tuple ht
        have ei := cvals_eq hc rv
        subst ei
        obtain ⟨⟨oc, od', oda, osl⟩, hget, h1, n, h2⟩ := pl
        dsimp only at h1 h2
        subst h1 h2
        exact PySem.W.kia_tup Z I.kIn J hget e (fun z => nomatch z) fin
/-- a field of the caught exception -/
structure FdC (K : PySem.W.Frag) (C : Addr) (n : Str) : Prop where
  x : XfC K C
  no : PySem.W.findIn K (.ref C) n = some none
@[irreducible] def rFdX (K : PySem.W.Frag) (a : Addr) (c : Value) (d : Option Addr) (n : Str) (x : V) (H : Hp) (Q : VK) : Prop := x = .ref a ∧ ∃ (C dd : Addr) (fs : List (Str × V)) (v : V), c = .ref C ∧ FdC K C n ∧ d = some dd ∧ H dd = some (.xd fs) ∧ fs.lookup n = some v ∧ Q v H
def tFldX (K : PySem.W.Frag) (a : Addr) (c : Value) (d : Option Addr) (te : TE) (n : Str) : TE := fun σ H Q => te σ H fun x H1 => rFdX K a c d n x H1 Q
theorem pe_fldX {X : Cx} {a : Addr} {c : Value} {d : Option Addr} {e : Expr} {te : TE} {pos : Pos} {n : Str} (ev : EvC X a c d) (he : PE X e te) (hb : attributeBase e n X.env (eval e X.env) = eval e X.env) : PE X (.Attribute e n pos) (tFldX X.K a c d te n) := by
  refine ⟨fun pins s σ H Q I h => ?_⟩
  refine attr_of hb (thn (he.run pins s σ H _ I h) fun u s1 hh => ?_)
  obtain ⟨x, H1, I1, rx, q0⟩ := hh
  unfold rFdX at q0
  obtain ⟨ex, C, dd, fs, v, ec, T, ed, ea, l, q⟩ := q0
  subst ex ec ed
  obtain rfl : u = Value.ref a := rx
  obtain ⟨mA, hns, hr⟩ := (show ObjOk X.prog X.w H1 s1.heap dd (.xd fs) from I1.hok dd _ ea)
  obtain ⟨oe, od, J, _, hod⟩ := instE I1 ev ⟨fs, ea⟩
  obtain ⟨o, rfl, ho⟩ := hod dd rfl
  obtain ⟨o', ho', hl⟩ := lookIn_ns hns
  rw [ho] at ho'
  cases ho'
  have rl := hr n
  rw [l] at rl
  obtain ⟨w, hw, rw'⟩ := RelO.some_of (v := v) (o := mA n) rl
  exact HandSPX.exc_get I1.kIn J T.x.ga T.x.gg T.x.exC (PySem.W.findObj_own T.x.hdC T.no rfl (by rw [hl, hw])) (handed_of rw') ⟨v, H1, I1.tok _, rw', q⟩
/-- what a def promises that is called while an exception is handled -/
structure FnE (P : Program) (w : World) (K : PySem.W.Frag) (mg : Str → Option Value) (base : Heap) (CX : CXT) (k : Nat) (f : Addr) (fd : FuncData) (ps : List Str) (sp : SpE) : Prop where
  len : ∀ a c d vs H Q E, sp a c d vs H Q E → vs.length = ps.length
  run : ∀ {A : Around} {outer : List Env} {s : Shared} {H : Hp} {us : List Value} {vs : List V} {Q : VK} {E : XK} {a : Addr} {oe : Obj} {c : Value} {d : Option Addr}, L2H.RoomH k A → A.handled = some (.ref a) → Zc c d oe → (∃ vs, oe.data = .fields vs) →
    L2H.PinOk outer H s (a, oe) → Env0 P w K mg base A outer s H → BindsTo s fd ⟨us, []⟩ (ps.zip us) → Vals vs us → sp a c d vs H Q E → codeAny (model P w) A (.call (.ref f) ⟨us, []⟩) (CR CX outer P w H s Q E) s
section
variable {P : Program} {w : World} {K : PySem.W.Frag} {mg : Str → Option Value} {base : Heap} {CX : CXT} {k : Nat} {f : Addr} {fd : FuncData} {N ps : List Str} {sp : SpE}
theorem fnE_of {x qual : Str} {pa : Arguments} {bd : List Stmt} {sc : Scope} {dvs : List V} {kws : List (Str × V)} (F : FunD K x qual pa bd sc dvs kws f fd) (S : FnScope N ps sc) (len : ∀ a c d vs H Q E, sp a c d vs H Q E → vs.length = ps.length)
    (body : ∀ (cdv : Value) (A : Around) (outer : List Env) (s : Shared) (H : Hp) (vs : List V) (Q : VK) (E : XK) (a : Addr) (oe : Obj) (c : Value) (d : Option Addr), A.handled = some (.ref a) → Zc c d oe → (∃ vs, oe.data = .fields vs) →
      L2H.RoomH k (A.deeper (envOfC qual sc s.heap.objs.size f cdv)) → sp a c d vs H Q E →
      ∃ t, PSs (L2H.cxH CX P w K mg base N qual sc f cdv A outer s H E (a, oe)) bd t ∧ t { nx := fun _ H' => Q .non H', rt := Q } (L2.start N vs) H) : FnE P w K mg base CX (k + 1) f fd ps sp := by
  obtain ⟨oc, od, dV, kV, doc, pm, an, cdv, ct, osl, rfl, lk, hcd, _, _⟩ := F.ex
  refine ⟨len, fun {A outer s H us vs Q E a oe c d} room hh hz hf pin e0 bi rv hs => ?_⟩
  have count := len _ _ _ _ _ _ _ hs
  have keep := fun b o (e : base.get? b = some o) => (e0.bs b o e).1
  have kin : K.In s.heap := e0.mod.kin.keeps keep
  have slots : ∀ y ∈ ps.zip us, sc.names.lookup y.1 = some .local ∨ (sc.names.lookup y.1 = some .cell ∧ ((cellsFrom (s.heap.objs.size + 1) sc.names []).lookup y.1).isSome = true) := by
    intro y hy
    rcases S.par y.1 (List.of_mem_zip (a := y.1) (b := y.2) hy).1 with q | q
    · exact .inl q
    · exact .inr ⟨q, PySem.W.cellsFrom_some _ _ _ (.inl q)⟩
  refine codeAny_call_function room.depth (kin _ _ lk) rfl S.co S.gen rfl (PySem.W.codeRec_of kin hcd) (bi _ _ _ _ ?_)
  refine wpAny_newFunctionEnv_cells S.kind slots ?_
  rintro env rfl s1 inC
  refine ⟨(e0.mod.nolimit.keeps keep).keeps inC.toInCall.keep, codeAny_func ?_⟩
  obtain ⟨t, pt, ht⟩ := body cdv A outer s H vs Q E a oe c d hh hz hf (room.deeper _) hs
  have start0 := L2H.inv_startH (CX := CX) (E := E) S pin e0 count rv inC
  refine wpAny_mono (pt.run [] s1 _ H _ start0 ht) ?_ fun _ _ z => z
  intro fl s' z
  cases fl with
  | ret u =>
    obtain ⟨v, _, H', J, rl, q⟩ := z
    exact ⟨v, H', J.os, J.bare, J.base, J.hok, rl, q⟩
  | next =>
    obtain ⟨_, H', J, q⟩ := z
    exact ⟨V.non, H', J.os, J.bare, J.base, J.hok, rfl, q⟩
  | brk => exact z.elim fun _ z => z.elim fun _ z => z.2.elim
  | cont => exact z.elim fun _ z => z.elim fun _ z => z.2.elim
end
def tCallE (sp : Sp) (t : TA) : TE := fun σ H Q => t σ H fun vs H1 => sp vs H1 Q (fun _ _ _ => False)
theorem run_fnE {X : Cx} {CX : CXT} {k : Nat} {f : Addr} {fd : FuncData} {ps : List Str} {sp : SpE} {a : Addr} {c : Value} {d : Option Addr} {pins : List (Addr × Obj)} {σ : L2.St} {H : Hp} {s : Shared} {Q : VK} {us : List Value} {vs : List V}
    (F : FnE X.prog X.w X.K X.mg X.base CX k f fd ps sp) (hr : L2H.RoomH k X.A) (ev : EvC X a c d) (hb : Binds X.K fd ps []) (hx : PassesAt CX X σ (fun _ _ _ => False)) (I : Inv X pins σ H s) (r : Vals vs us) (h : sp a c d vs H Q (fun _ _ _ => False)) :
    wpAny (model X.prog X.w) X.A (call (.ref f) us) (EP X pins σ Q) X.xe s := by
  obtain ⟨hh, oe, hp, hz, hf⟩ := ev
  obtain ⟨p1, p2, p3, p4, p5⟩ := I.pin (a, oe) (List.mem_append_left _ hp)
  have hl : us.length = ps.length := r.length.symm.trans (F.len _ _ _ _ _ _ _ h)
  have bi := hb s us I.kIn (by rw [List.append_nil]; exact hl)
  rw [List.append_nil] at bi
  have pin : L2H.PinOk X.stack H s (a, oe) := ⟨p1, p2, fun m => (List.mem_cons.mp (I.stkSub a m)).elim p3 p4, p5⟩
  refine wpAny_call (codeAny_mono (F.run hr hh hz hf pin I.env0 bi r h) ?_)
  intro r s' z
  match r, z with
  | .error e, z => exact hx pins H s e s' I z
  | .ok (.ret u), z => exact I.after z
  | .ok .next, z => exact z.elim
  | .ok .brk, z => exact z.elim
  | .ok .cont, z => exact z.elim
theorem pe_callE {X : Cx} {CX : CXT} {k : Nat} {f : Addr} {fd : FuncData} {ps : List Str} {sp : SpE} {a : Addr} {c : Value} {d : Option Addr} {x : Str} {p pos : Pos} {e : Expr} {es : List Expr} {t : TA} (F : FnE X.prog X.w X.K X.mg X.base CX k f fd ps sp) (hr : L2H.RoomH k X.A)
    (ev : EvC X a c d) (hg : Gl X x) (hm : X.mg x = some (.ref f)) (hk : PySem.W.keepIn X.K (.ref f) = true) (hb : Binds X.K fd ps []) (hx : ∀ σ, PassesAt CX X σ (fun _ _ _ => False)) (ha : PA X (e :: es) t) (hdb : (x == ("__debug__" : Str)) = false)
    (he : starEach (e :: es) X.env = (false, eval e X.env) :: starEach es X.env) (hpl : (backTo pos (starEach es X.env)).any (·.1) = false) : PE X (.Call (.Name x p) (e :: es) [] pos) (tCallE (sp a c d) t) := by
  refine ⟨fun pins s σ H Q I h => ?_⟩
  refine wpAny_Call_Name_kw (ld_glob I hg hm ?_ hdb)
  refine PySem.W.callWith_K (h₀ := X.base) I.ok.mod.kin hk (thn (ha.run pos pins s σ H _ I h) ?_) he hpl
  rintro us s1 ⟨vs, H1, J, rv, q⟩
  exact ⟨J.kIn, run_fnE F hr ev hb (hx σ) J rv q⟩
end Rf
namespace Rf
open PySem L2 PySem.Spec PyProof.Rows

/-! ### built-in functions, by name -/
structure BFn (K : PySem.W.Frag) (x : Str) where
  val : Value
  r : List V → Hp → VK → Prop
  kind : (∃ id, val = .builtin id) ∨ ∃ T, val = .type T
  boot : bootBuiltins x = some val
  nm : x ≠ "__name__"
  cool : Bool
  ok : ∀ X : Cx, X.K = K → (cool = false → X.calm = true) → X.A.units + 100 < cLine → CallR X val r
def rLenU (K : PySem.W.Frag) : List V → Hp → VK → Prop := fun xs H Q => match xs with
  | [.str y] => y.length ≤ sizeLine ∧ Q (.int (y.length : Nat)) H
  | [.ref p] => (∃ ys, SqL K H p ys ∧ Q (.int (ys.length : Nat)) H) ∨ (∃ ys, SqT K H p ys ∧ Q (.int (ys.length : Nat)) H) ∨ (∃ kvs, H p = some (.dK kvs) ∧ Q (.int (kvs.length : Nat)) H) ∨ ∃ kvs, H p = some (.dT kvs) ∧ Q (.int (kvs.length : Nat)) H
  | _ => False
theorem callMono {X : Cx} {f : Value} {r r' : List V → Hp → VK → Prop} (h : CallR X f r) (i : ∀ xs H Q, r' xs H Q → r xs H Q) : CallR X f r' := fun pins s σ H xs us Q I rx q => h pins s σ H xs us Q I rx (i xs H Q q)
theorem lenU_ok {X : Cx} : CallR X (.builtin "len") (rLenU X.K) := callMono (callOr call_len (callOr call_lenD call_len_dT)) fun xs H Q q => by
  unfold rLenU at q
  split at q
  · exact .inl ⟨_, _, rfl, ⟨q.1, rfl⟩, q.2⟩
  · rcases q with ⟨ys, h, q⟩ | ⟨ys, h, q⟩ | ⟨kvs, h, q⟩ | ⟨kvs, h, q⟩
    · exact .inl ⟨_, _, rfl, .inl ⟨ys, h, rfl⟩, q⟩
    · exact .inl ⟨_, _, rfl, .inr ⟨ys, h, rfl⟩, q⟩
    · exact .inr (.inl ⟨_, _, rfl, h, q⟩)
    · exact .inr (.inr ⟨_, _, rfl, h, q⟩)
  · exact q.elim
def rAbsU : List V → Hp → VK → Prop := fun xs H Q => match xs with
  | [.int i] => Q (.int (if i < 0 then -i else i)) H
  | _ => False
theorem absU_ok {X : Cx} : CallR X (.builtin "abs") rAbsU := callMono call_abs fun xs H Q q => by
  unfold rAbsU at q
  split at q
  · exact ⟨_, rfl, q⟩
  · exact q.elim
def rMaxU (K : PySem.W.Frag) : List V → Hp → VK → Prop := fun xs H Q => match xs with
  | [.int i, .int j] => Q (.int (if j > i then j else i)) H
  | xs => rMax K xs H Q
def rMinU (K : PySem.W.Frag) : List V → Hp → VK → Prop := fun xs H Q => match xs with
  | [.int i, .int j] => Q (.int (if j < i then j else i)) H
  | xs => rMin K xs H Q
theorem maxU_ok {X : Cx} (hc : X.calm = true) : CallR X (.builtin "max") (rMaxU X.K) := callMono (callOr (call_max2 hc) (cr_max hc)) fun xs H Q q => by
  unfold rMaxU at q
  split at q
  · exact .inl ⟨_, _, rfl, q⟩
  · exact .inr q
theorem minU_ok {X : Cx} (hc : X.calm = true) : CallR X (.builtin "min") (rMinU X.K) := callMono (callOr (call_min2 hc) (cr_min hc)) fun xs H Q q => by
  unfold rMinU at q
  split at q
  · exact .inl ⟨_, _, rfl, q⟩
  · exact .inr q
/-- isinstance of values of built-in kinds, against built-in classes -/
def isL1 : List String := ["NoneType", "bool", "int", "str", "list", "tuple", "dict"]
def isL2 : List String := ["int", "bool", "str", "list", "dict", "tuple"]
def isA (a b : String) : Bool := a == b || (a == "bool" && b == "int")
def isO (a b : String) : Option Bool := if isL1.contains a && isL2.contains b then some (isA a b) else none
theorem isTab : isL1.all (fun a => isL2.all fun b => decide (kitB a b = some (isA a b))) = true := by decide +kernel
theorem isO_ok {a b : String} {r : Bool} (h : isO a b = some r) : kitB a b = some r := by
  unfold isO at h
  by_cases e : (isL1.contains a && isL2.contains b) = true
  · rw [if_pos e] at h
    cases h
    obtain ⟨e1, e2⟩ := Bool.and_eq_true_iff.mp e
    exact of_decide_eq_true (List.all_eq_true.mp (List.all_eq_true.mp isTab a (by simpa using e1)) b (by simpa using e2))
  · rw [if_neg e] at h
    cases h
@[irreducible] def rIsiU (K : PySem.W.Frag) : List V → Hp → VK → Prop := fun xs H Q => match xs with
  | [.int _, .ty T] => ∃ b, isO "int" T = some b ∧ Q (.bl b) H
  | [.bl _, .ty T] => ∃ b, isO "bool" T = some b ∧ Q (.bl b) H
  | [.str _, .ty T] => ∃ b, isO "str" T = some b ∧ Q (.bl b) H
  | [.non, .ty T] => ∃ b, isO "NoneType" T = some b ∧ Q (.bl b) H
  | [.ref p, .ty T] => ∃ t, TyX K H (.ref p) (.type t) ∧ ∃ b, isO t T = some b ∧ Q (.bl b) H
  | xs => rIsi K xs H Q ∨ rIsiT K xs H Q
theorem isiU_ok {X : Cx} : CallR X (.builtin "isinstance") (rIsiU X.K) := callMono (callOr call_isi call_isiT) fun xs H Q q => by
  unfold rIsiU at q
  split at q
  · obtain ⟨b, h, q⟩ := q
    exact .inl ⟨_, _, _, _, b, rfl, .ty _, .base (.int _), kit_ty (isO_ok h), q⟩
  · obtain ⟨b, h, q⟩ := q
    exact .inl ⟨_, _, _, _, b, rfl, .ty _, .base (.bl _), kit_ty (isO_ok h), q⟩
  · obtain ⟨b, h, q⟩ := q
    exact .inl ⟨_, _, _, _, b, rfl, .ty _, .base (.str _), kit_ty (isO_ok h), q⟩
  · obtain ⟨b, h, q⟩ := q
    exact .inl ⟨_, _, _, _, b, rfl, .ty _, .base .non, kit_ty (isO_ok h), q⟩
  · obtain ⟨t, ht, b, h, q⟩ := q
    exact .inl ⟨_, _, _, _, b, rfl, .ty _, ht, kit_ty (isO_ok h), q⟩
  · exact q
def rStrU : List V → Hp → VK → Prop := fun xs H Q => ∃ i, xs = [.int i] ∧ i.natAbs.log2 < 1920 ∧ Q (.str (toString i)) H
def rIntU : List V → Hp → VK → Prop := fun xs H Q => match xs with
  | [.int i] => Q (.int i) H
  | [.bl k] => Q (.int (if k then 1 else 0)) H
  | xs => ∃ a n, xs = [.str a] ∧ PySem.intText? a = some n ∧ a.length ≤ 640 ∧ Q (.int n) H
theorem intU_ok {X : Cx} : CallR X (.type "int") rIntU := callMono (callOr call_int1 call_int_str) fun xs H Q q => by
  unfold rIntU at q
  split at q
  · exact .inl (.inl ⟨_, rfl, q⟩)
  · exact .inl (.inr ⟨_, rfl, q⟩)
  · exact .inr q
def bLen (K) : BFn K "len" := ⟨.builtin "len", rLenU K, .inl ⟨_, rfl⟩, boot_len, by decide, true, fun X e _ _ => e ▸ lenU_ok⟩
def bAbs (K) : BFn K "abs" := ⟨.builtin "abs", rAbsU, .inl ⟨_, rfl⟩, boot_abs, by decide, true, fun X _ _ _ => absU_ok⟩
def bMax (K) : BFn K "max" := ⟨.builtin "max", rMaxU K, .inl ⟨_, rfl⟩, boot_max, by decide, false, fun X e hc _ => e ▸ maxU_ok (hc rfl)⟩
def bMin (K) : BFn K "min" := ⟨.builtin "min", rMinU K, .inl ⟨_, rfl⟩, boot_min, by decide, false, fun X e hc _ => e ▸ minU_ok (hc rfl)⟩
def bIsi (K) : BFn K "isinstance" := ⟨.builtin "isinstance", rIsiU K, .inl ⟨_, rfl⟩, boot_isinstance, by decide, true, fun X e _ _ => e ▸ isiU_ok⟩
def bSum (K) : BFn K "sum" := ⟨.builtin "sum", rSum K, .inl ⟨_, rfl⟩, boot_sum, by decide, false, fun X e hc _ => e ▸ cr_sum (hc rfl)⟩
def bAll (K) : BFn K "all" := ⟨.builtin "all", rAll K, .inl ⟨_, rfl⟩, boot_all, by decide, false, fun X e hc _ => e ▸ cr_all (hc rfl)⟩
def bAny (K) : BFn K "any" := ⟨.builtin "any", rAny K, .inl ⟨_, rfl⟩, boot_any, by decide, false, fun X e hc _ => e ▸ cr_any (hc rfl)⟩
def bStr (K) : BFn K "str" := ⟨.type "str", rStrU, .inr ⟨_, rfl⟩, PyProof.Rows.boot_str, by decide, true, fun X _ _ _ => call_str_int⟩
def bInt (K) : BFn K "int" := ⟨.type "int", rIntU, .inr ⟨_, rfl⟩, PyProof.Rows.boot_int, by decide, true, fun X _ _ _ => intU_ok⟩
def bList (K) : BFn K "list" := ⟨.type "list", rListDU, .inr ⟨_, rfl⟩, PyProof.Rows.boot_list, by decide, false, fun X _ hc _ => call_listDU (hc rfl)⟩
@[irreducible] def rDictU (K : PySem.W.Frag) : List V → Hp → VK → Prop := fun xs H Q => (∃ (a : Addr) (kvs : List (Key × V)), xs = [.ref a] ∧ Rd H a (.dK kvs) ∧ ∀ p, H p = none → Q (.ref p) (upd H p (.dK kvs))) ∨
  (∃ (a : Addr) (ps : List Addr) (kvs : List (Key × V)), xs = [.ref a] ∧ SqL K H a (ps.map V.ref) ∧ Paired (fun p kv => SqT K H p [kV kv.1, kv.2]) ps kvs ∧ ∀ p, H p = none → Q (.ref p) (upd H p (.dK (mergeK [] kvs))))
theorem dictU_ok {X : Cx} (hc : X.calm = true) : CallR X (.type "dict") (rDictU X.K) := by
  unfold rDictU
  exact callOr call_dictD (call_dictP hc)
def bDict (K) : BFn K "dict" := ⟨.type "dict", rDictU K, .inr ⟨_, rfl⟩, PyProof.Rows.boot_dict, by decide, false, fun X e hc _ => e ▸ dictU_ok (hc rfl)⟩
@[irreducible] def rTupU (K : PySem.W.Frag) : List V → Hp → VK → Prop := fun xs H Q => ∃ p ys, xs = [.ref p] ∧ ((SqL K H p ys ∧ ∀ l, H l = none → Q (.ref l) (upd H l (.tup ys))) ∨ (SqT K H p ys ∧ Q (.ref p) H))
theorem tupU_ok {X : Cx} : CallR X (.type "tuple") (rTupU X.K) := by
  unfold rTupU
  exact call_tuple_of
def bTup (K) : BFn K "tuple" := ⟨.type "tuple", rTupU K, .inr ⟨_, rfl⟩, PyProof.Rows.boot_tuple, by decide, true, fun X e _ _ => e ▸ tupU_ok⟩
@[irreducible] def rSrtU (K : PySem.W.Frag) : List V → Hp → VK → Prop := fun xs H Q => rSortedI K xs H Q ∨ rSortedS K xs H Q ∨ rSortedP K xs H Q ∨
  (∃ (a : Addr) (kvs : List (Key × V)) (ks : List Str), xs = [.ref a] ∧ Rd H a (.dK kvs) ∧ kvs.map (·.1) = ks.map Sum.inr ∧ ks.length < 64 ∧ ∀ ys p, ys.Perm ks → sortedS ys = true → H p = none → Q (.ref p) (upd H p (.lst (ys.map V.str)))) ∨
  (∃ (a : Addr) (kvs : List (Key × V)) (ks : List Int), xs = [.ref a] ∧ Rd H a (.dK kvs) ∧ kvs.map (·.1) = ks.map Sum.inl ∧ ks.length < 64 ∧ ∀ (ys : List Int) (p : Addr), ys.Perm ks → ys.Pairwise (· ≤ ·) → H p = none → Q (.ref p) (upd H p (.lst (ys.map V.int))))
theorem srtU_ok {X : Cx} (hc : X.calm = true) : CallR X (.builtin "sorted") (rSrtU X.K) := by
  unfold rSrtU
  exact callOr cr_sortedI (callOr cr_sortedS (callOr cr_sortedP (callOr (call_sortedD hc) (call_sortedDI hc))))
def bSrt (K) : BFn K "sorted" := ⟨.builtin "sorted", rSrtU K, .inl ⟨_, rfl⟩, boot_sorted, by decide, false, fun X e hc _ => e ▸ srtU_ok (hc rfl)⟩
def blt (K : PySem.W.Frag) (x : Str) : Option (BFn K x) :=
  if h : x = "len" then some (h ▸ bLen K) else if h : x = "abs" then some (h ▸ bAbs K) else if h : x = "max" then some (h ▸ bMax K) else if h : x = "min" then some (h ▸ bMin K)
  else if h : x = "isinstance" then some (h ▸ bIsi K) else if h : x = "sum" then some (h ▸ bSum K) else if h : x = "all" then some (h ▸ bAll K) else if h : x = "any" then some (h ▸ bAny K)
  else if h : x = "str" then some (h ▸ bStr K) else if h : x = "int" then some (h ▸ bInt K) else if h : x = "list" then some (h ▸ bList K) else if h : x = "dict" then some (h ▸ bDict K) else if h : x = "tuple" then some (h ▸ bTup K) else if h : x = "sorted" then some (h ▸ bSrt K) else none

/-- built-in classes as values -/
def tyNames : List (Str × String) := [("int", "int"), ("bool", "bool"), ("str", "str"), ("list", "list"), ("dict", "dict"), ("tuple", "tuple"), ("set", "set"), ("ValueError", "ValueError")]
theorem tyNames_ok : tyNames.all (fun p => decide (bootBuiltins p.1 = some (.type p.2)) && decide (p.1 ≠ "__name__")) = true := by decide +kernel

/-! ### names -/
def ixO : List Str → Str → Option Nat
  | [], _ => none
  | y :: r, x => if y = x then some 0 else (ixO r x).map (· + 1)
theorem ixO_ok : ∀ {N : List Str} {x : Str} {i : Nat}, ixO N x = some i → N[i]? = some x
  | [], _, _, h => by cases h
  | y :: r, x, i, h => by
    unfold ixO at h
    by_cases e : y = x
    · rw [if_pos e] at h
      cases h
      simp [e]
    · rw [if_neg e] at h
      obtain ⟨j, hj, rfl⟩ := Option.map_eq_some_iff.mp h
      simpa using ixO_ok hj
inductive GK where
  | fn (sp : Sp) (dvs : List V)
  | cls (C : Addr) (sp : Sp) (dvs : List V)
  | con (v : V)
  | bl
  | exc (C : Addr) (sp : Sp) (dvs : List V)
  | bex (C : Addr)
structure GT where
  K : PySem.W.Frag
  N : List Str
  G : List (Str × GK)
  M : List (Str × Addr × Sp × List V)
  Hs : List (Str × SpE)
/-- what a callable of the program's own stands for -/
def FnK (X : Cx) (f : Addr) (k : Nat) (sp : Sp) (dvs : List V) : Prop := ∃ fd ps ds, FnOk X.prog X.w X.K X.mg X.base (L2.CX X.prog X.w) k f fd ps sp ∧ Binds X.K fd ps ds ∧ Vals dvs ds
/-- a block's names; whether no exception is handled; if not, the handled one, its class, its dict -/
structure SC where
  sc : Scope
  ow : Str → Bool
  cm : Bool
  xv : Option (Addr × Value × Option Addr)
/-- what a callable in an except suite stands for -/
def FnKE (X : Cx) (f : Addr) (k : Nat) (sp : SpE) : Prop := ∃ fd ps, FnE X.prog X.w X.K X.mg X.base (L2.CX X.prog X.w) k f fd ps sp ∧ Binds X.K fd ps []
def owB (scope : Scope) (x : Str) : Bool := match scope.names.lookup x with
  | some .local => true
  | some .cell => true
  | _ => false
structure OkE (g : GT) (S : SC) (E : L2.St → XK) (X : Cx) : Prop where
  K : X.K = g.K
  N : X.N = g.N
  nd : X.N.Nodup
  sc : X.env.scope = S.sc
  ow : ∀ x, S.ow x = true → Loc X.env.scope x ∧ (X.fn x = true ∨ X.env.scope.names.lookup x = some .local)
  kd : X.env.scope.kind = .function
  calm : S.cm = true → X.calm = true
  un : X.A.units + 100 < cLine
  ps : ∀ σ, PassesAt (L2.CX X.prog X.w) X σ (E σ)
  fn : S.cm = true → ∀ x sp dvs, g.G.lookup x = some (.fn sp dvs) → ∃ f k, FnK X f k sp dvs ∧ Room k X.A ∧ X.mg x = some (.ref f) ∧ PySem.W.keepIn X.K (.ref f) = true
  cls : S.cm = true → ∀ x C sp dvs, g.G.lookup x = some (.cls C sp dvs) → ∃ f k, FnK X f k sp dvs ∧ Room (k + 1) X.A ∧ X.mg x = some (.ref C) ∧ Mk X.K C f
  exc : S.cm = true → ∀ x C sp dvs, g.G.lookup x = some (.exc C sp dvs) → ∃ f k, FnK X f k sp dvs ∧ Room (k + 1) X.A ∧ X.mg x = some (.ref C) ∧ OexC X.K C ∧ PySem.W.findIn X.K (.ref C) "__init__" = some (some (.ref f)) ∧ PySem.W.typeIn X.K (.ref f) = some (.type "function")
  bex : ∀ x C, g.G.lookup x = some (.bex C) → X.mg x = some (.ref C) ∧ BaseE X.K C
  con : ∀ x v, g.G.lookup x = some (.con v) → ∃ u, X.mg x = some u ∧ RelV v u
  bl : ∀ x, g.G.lookup x = some .bl → X.mg x = none
  me : S.cm = true → ∀ m C sp dvs, (m, C, sp, dvs) ∈ g.M → ∃ f k, FnK X f k sp dvs ∧ Room k X.A ∧ Cls X.K C ∧ Meth X.K C m f
  hfn : ∀ x sp, g.Hs.lookup x = some sp → ∃ f k, FnKE X f k sp ∧ L2H.RoomH k X.A ∧ X.mg x = some (.ref f) ∧ PySem.W.keepIn X.K (.ref f) = true
  xv : ∀ a c d, S.xv = some (a, c, d) → EvC X a c d

theorem owB_cases {scope : Scope} {x : Str} (h : owB scope x = true) : scope.names.lookup x = some .local ∨ scope.names.lookup x = some .cell := by
  unfold owB at h
  split at h
  · exact .inl (by assumption)
  · exact .inr (by assumption)
  · cases h
/-- a comprehension's block -/
def SC.blk (S : SC) (scope : Scope) : SC := ⟨relS scope S.sc, owB scope, true, none⟩
theorem OkE.blk {g : GT} {S : SC} {E : L2.St → XK} {X : Cx} (O : OkE g S E X) (hcm : S.cm = true) (s : Shared) (H : Hp) (scope : Scope) (hk : scope.kind = .function) (C : Addr) (cl : List (Str × Addr)) (fp : List Addr) :
    OkE g (S.blk scope) EZ (X.blk s H scope (compEnvC scope cl C X.env) fp) where
  K := O.K
  N := O.N
  nd := O.nd
  sc := by
    have e := O.sc
    show _ = relS scope S.sc
    rw [← e]
    rfl
  ow := fun x h => by
    rcases owB_cases h with e | e
    · exact ⟨.inl (lookup_relS_keep (sc := X.env.scope) (by decide) e), .inr (lookup_relS_keep (sc := X.env.scope) (by decide) e)⟩
    · refine ⟨.inr (lookup_relS_keep (sc := X.env.scope) (by decide) e), .inl ?_⟩
      show (scope.names.lookup x == some .cell) = true
      rw [e]
      rfl
  kd := hk
  calm := fun _ => O.calm hcm
  un := O.un
  ps := fun σ pins H s e s' I c => passL pins σ H s e s' I c
  fn := fun _ => O.fn hcm
  cls := fun _ => O.cls hcm
  exc := fun _ => O.exc hcm
  bex := O.bex
  con := O.con
  bl := O.bl
  me := fun _ => O.me hcm
  hfn := O.hfn
  xv := fun a c d h => nomatch h
end Rf
namespace Rf
open PySem L2 PySem.Spec PyProof.Rows

/-! ### subscripts, stores -/
def rIxD : R2 := fun x y H Q => ∃ a v, x = .ref a ∧ DGet H a y (some v) ∧ Q v H
theorem ix_dict {X : Cx} (hu : X.A.units + 1 < cLine) : IxR X rIxD := by
  intro value slice pins s σ H x y v u Q I rx ry h hs
  obtain ⟨a, w', rfl, g, q⟩ := h
  cases rx
  exact tail_any (dict_typeIs I g) PySem.F.slot_dict_getitem.lookup (d_getItem hu I g ry fun w2 s3 I3 rw' => ⟨w', H, I3, rw', q⟩) hs
@[irreducible] def rIxU (K : PySem.W.Frag) : R2 := fun x y H Q => rIx K x y H Q ∨ rIxD x y H Q
theorem ix_u {X : Cx} (hu : X.A.units + 1 < cLine) : IxR X (rIxU X.K) := by
  unfold rIxU
  exact ix_seq.or (ix_dict hu)
def rSetD : TSet := fun o i v H Q => ∃ a H4, o = .ref a ∧ DPut H a i v H4 ∧ Q H4
theorem set_dict {X : Cx} (hu : X.A.units + 1 < cLine) : PSet X rSetD := by
  intro pins s σ H o i v ov iv u Q I ro ri rv h
  obtain ⟨a, H4, rfl, g, q⟩ := h
  cases ro
  exact d_setItem hu I g ri rv fun s4 I4 => ⟨H4, I4, q⟩
@[irreducible] def rSetU : TSet := fun o i v H Q => rSetL o i v H Q ∨ rSetD o i v H Q
theorem set_u {X : Cx} (hu : X.A.units + 1 < cLine) : PSet X rSetU := by
  intro pins s σ H o i v ov iv u Q I ro ri rv h
  unfold rSetU at h
  rcases h with h | h
  · exact set_list pins s σ H o i v ov iv u Q I ro ri rv h
  · exact set_dict hu pins s σ H o i v ov iv u Q I ro ri rv h
@[irreducible] def rSlU (K : PySem.W.Frag) : V → Option Int → Option Int → Hp → VK → Prop := fun x lo hi H Q => rSlL K x lo hi H Q ∨ (∃ z, x = .str z ∧ z.length ≤ sizeLine ∧ Q (.str (cutS z lo hi)) H) ∨ rSlT K x lo hi H Q

/-! ### built-in types' methods, by name -/
structure BM (K : PySem.W.Frag) (m : Str) where
  T : String
  id : String
  pa : PlainAttrs T
  slot : Slot T m id
  hty : typeOf (.builtin id) = pure (.type "method_descriptor")
  r : V → List V → Hp → VK → Prop
  ok : ∀ X : Cx, X.K = K → X.A.units + 100 < cLine → MtR X id r
def tMtL (K : PySem.W.Frag) (m : Str) (to : TE) (ta : TA) : List (BM K m) → TE
  | [] => fun _ _ _ => False
  | [b] => tBM K b.T b.r to ta
  | b :: c :: r => fun σ H Q => tBM K b.T b.r to ta σ H Q ∨ tMtL K m to ta (c :: r) σ H Q
def tMtL0 (K : PySem.W.Frag) (m : Str) (to : TE) : List (BM K m) → TE
  | [] => fun _ _ _ => False
  | [b] => tBM0 K b.T b.r to
  | b :: c :: r => fun σ H Q => tBM0 K b.T b.r to σ H Q ∨ tMtL0 K m to (c :: r) σ H Q
def mAppend (K) : BM K "append" := ⟨"list", "list.append", PySem.F.plainAttrs_list, PySem.F.slot_list_append, PySem.F.type_list_append, rAppend, fun _ _ _ => mt_append⟩
def mExtend (K) : BM K "extend" := ⟨"list", "list.extend", PySem.F.plainAttrs_list, PySem.F.slot_list_extend, PySem.F.type_list_extend, rExtend, fun _ _ _ => mt_extend⟩
def mLPop (K) : BM K "pop" := ⟨"list", "list.pop", PySem.F.plainAttrs_list, PySem.F.slot_list_pop, PySem.F.type_list_pop, fun x xs H Q => rPop x xs H Q ∨ rPopAt x xs H Q, fun _ _ _ => MtR.or mt_pop mt_popAt⟩
def mLClear (K) : BM K "clear" := ⟨"list", "list.clear", PySem.F.plainAttrs_list, PySem.F.slot_list_clear, PySem.F.type_list_clear, rClear, fun _ _ _ => mt_clear⟩
def mLReverse (K) : BM K "reverse" := ⟨"list", "list.reverse", PySem.F.plainAttrs_list, PySem.F.slot_list_reverse, PySem.F.type_list_reverse, rReverse, fun _ _ _ => mt_reverse⟩
def mLIndex (K) : BM K "index" := ⟨"list", "list.index", PySem.F.plainAttrs_list, PySem.F.slot_list_index, PySem.F.type_list_index, rIndex K, fun _ e _ => e ▸ mt_index⟩
def mDGet (K) : BM K "get" := ⟨"dict", "dict.get", PySem.F.plainAttrs_dict, PySem.F.slot_dict_get, PySem.F.type_dict_get, rDGetM, fun _ _ hu => mt_dget (by omega)⟩
def mDPop (K) : BM K "pop" := ⟨"dict", "dict.pop", PySem.F.plainAttrs_dict, PySem.F.slot_dict_pop, PySem.F.type_dict_pop, rDPopM, fun _ _ hu => mt_dpop (by omega)⟩
def mDClear (K) : BM K "clear" := ⟨"dict", "dict.clear", PySem.F.plainAttrs_dict, PySem.F.slot_dict_clear, PySem.F.type_dict_clear, rDClearM, fun _ _ _ => mt_dclear⟩
@[irreducible] def rJoinU (K : PySem.W.Frag) : V → List V → Hp → VK → Prop := fun x xs H Q => ∃ a p, ∃ ys : List Str, x = .str a ∧ xs = [.ref p] ∧ (SqL K H p (ys.map V.str) ∨ SqT K H p (ys.map V.str)) ∧ (ys.map (·.length)).sum + ys.length * a.length ≤ 16777216 ∧ Q (.str (Txt.join a ys)) H
theorem joinU_ok {X : Cx} : MtR X "str.join" (rJoinU X.K) := by
  unfold rJoinU
  exact mt_join
def mJoin (K) : BM K "join" := ⟨"str", "str.join", PySem.F.plainAttrs_str, PySem.F.slot_str_join, PySem.F.type_str_join, rJoinU K, fun _ e _ => e ▸ joinU_ok⟩
@[irreducible] def rInsU : V → List V → Hp → VK → Prop := fun x vs H Q => ∃ (l : Addr) (xs : List V) (i : Int) (y : V), x = .ref l ∧ vs = [.int i, y] ∧ H l = some (.lst xs) ∧ xs.length < sizeLine ∧ 0 ≤ i ∧ i < 2 ^ 63 ∧ Q .non (upd H l (.lst (xs.take i.toNat ++ [y] ++ xs.drop i.toNat)))
theorem insU_ok {X : Cx} : MtR X "list.insert" rInsU := by
  unfold rInsU
  exact mt_insert
def mInsert (K) : BM K "insert" := ⟨"list", "list.insert", PySem.F.plainAttrs_list, PySem.F.slot_list_insert, PySem.F.type_list_insert, rInsU, fun _ _ _ => insU_ok⟩
def bmt (K : PySem.W.Frag) (m : Str) : List (BM K m) :=
  if h : m = "append" then [h ▸ mAppend K] else if h : m = "extend" then [h ▸ mExtend K] else if h : m = "pop" then [h ▸ mLPop K, h ▸ mDPop K] else if h : m = "clear" then [h ▸ mLClear K, h ▸ mDClear K]
  else if h : m = "reverse" then [h ▸ mLReverse K] else if h : m = "index" then [h ▸ mLIndex K] else if h : m = "get" then [h ▸ mDGet K] else if h : m = "join" then [h ▸ mJoin K] else if h : m = "insert" then [h ▸ mInsert K] else []

/-! ### the compiler: expressions -/
def nameK (sc : Scope) (x : Str) : Option Bool := match sc.names.lookup x with
  | some .local => some true
  | some .cell => some true
  | some .free => some true
  | some .globalImplicit => some false
  | _ => none
def badName (x : Str) : Bool := (x == ("__debug__" : Str)) || (x == ("__classdict__" : Str))
def cName (g : GT) (sc : Scope) (x : Str) : Option TE :=
  if badName x then none else match nameK sc x with
  | some true => (ixO g.N x).map tV
  | some false => (match g.G.lookup x with
    | some (.con v) => some (tC v)
    | some .bl => (tyNames.lookup x).map fun T => tC (.ty T)
    | _ => none)
  | none => none
def cConst : Const → Option TE
  | .int i => some (tC (.int i))
  | .bool b => some (tC (.bl b))
  | .none => some (tC .non)
  | .str x => some (tC (.str x))
  | _ => none
def orE : List TE → TE
  | [] => fun _ _ _ => False
  | [a] => a
  | a :: b :: r => fun σ H Q => a σ H Q ∨ orE (b :: r) σ H Q
/-- isinstance in an except suite: of what is no exception, of the exception -/
@[irreducible] def rIsi2 (K : PySem.W.Frag) (a : Addr) (c : Value) (d : Option Addr) : List V → Hp → VK → Prop := fun xs H Q => rIsiU K xs H Q ∨ rIsX K a c d xs H Q
def cCallN (g : GT) (S : SC) (E : L2.St → XK) (x : Str) (no : Bool) (ta : TA) : Option TE :=
  if badName x then none else match nameK S.sc x with
  | some false => (match S.xv, g.G.lookup x with
    | none, some (.fn sp dvs) => if S.cm then some (tCallSD sp dvs E ta) else none
    | none, some (.cls C sp dvs) => if S.cm then some (tMakeS C sp dvs E ta) else none
    | none, some .bl => if no then none else (blt g.K x).bind fun b => if S.cm || b.cool then some (tCB b.r ta) else none
    | some (a, c, d), some .bl => if no then none else if x = "isinstance" then some (tCB (rIsi2 g.K a c d) ta) else (blt g.K x).bind fun b => if S.cm || b.cool then some (tCB b.r ta) else none
    | some (a, c, d), none => if no then none else (g.Hs.lookup x).map fun sp => tCallE (sp a c d) ta
    | _, _ => none)
  | _ => none
def mOf (g : GT) (m : Str) : List (Addr × Sp × List V) := g.M.filterMap fun p => if p.1 = m then some p.2 else none
def cCallM (g : GT) (cm : Bool) (E : L2.St → XK) (m : Str) (no : Bool) (line : Bool) (to : TE) (ta : TA) : Option TE := match mOf g m with
  | c :: cs => if line && cm then some (orE ((c :: cs).map fun c => tMethS c.1 m c.2.1 c.2.2 E to ta)) else none
  | [] => match bmt g.K m with
    | [] => none
    | b :: r => if line then (if no then some (tMtL0 g.K m to (b :: r)) else some (tMtL g.K m to ta (b :: r))) else none
def tNotT (t : TT) : TE := fun σ H Q => t σ H fun b H1 => Q (.bl (!b)) H1
def ownOf (N : List Str) (scope : Scope) : List (Str × Nat) := scope.names.filterMap fun p => match p.2 with
  | .local => (ixO N p.1).map fun i => (p.1, i)
  | .cell => (ixO N p.1).map fun i => (p.1, i)
  | _ => none
def cTgt (g : GT) (S : SC) : Expr → Option TG
  | .Name x _ => if S.ow x then (ixO g.N x).map gName else none
  | _ => none
def cTgts (g : GT) (S : SC) : List Expr → Option TGs
  | [] => some gNil
  | e :: r => (cTgt g S e).bind fun t => (cTgts g S r).map fun u => gCons t u
/-- a name, or names in a tuple; a tuple of such -/
def cTgt2 (g : GT) (S : SC) : Expr → Option TG
  | .Tuple es _ _ => if es.all noStar && S.cm then (cTgts g S es).map fun t => gTup g.K es.length t else none
  | e => cTgt g S e
def cTgts2 (g : GT) (S : SC) : List Expr → Option TGs
  | [] => some gNil
  | e :: r => (cTgt2 g S e).bind fun t => (cTgts2 g S r).map fun u => gCons t u
def cTg (g : GT) (S : SC) : Expr → Option TG
  | .Name x p => cTgt g S (.Name x p)
  | .Tuple es _ _ => if es.all noStar && S.cm then (cTgts2 g S es).map fun t => gTup g.K es.length t else none
  | _ => none
def iSeq (K : PySem.W.Frag) (te : TE) : TI := fun σ H R => te σ H fun x H1 => match x with
  | .ref a => (∃ xs, SqL K H1 a xs ∧ R (Itl K a) H1) ∨ ∃ xs, SqT K H1 a xs ∧ R (Itt K a) H1
  | .str x => R (Its x) H1
  | _ => False
def glb (g : GT) (sc : Scope) (x : Str) : Bool := (match nameK sc x with | some false => true | _ => false) && (match g.G.lookup x with | some .bl => true | _ => false)

def cF (f : Expr → Option TT) : List Expr → Option TT
  | [] => some tYes
  | [c] => f c
  | _ => none
def cP (f : Expr → Option TE) : List (Option Expr) → List Expr → Option (List (TE × TE))
  | [], [] => some []
  | some k :: ks, v :: vs => (f k).bind fun tk => (f v).bind fun tv => (cP f ks vs).map fun r => (tk, tv) :: r
  | _, _ => none
def cO (f : Expr → Option TE) : Option Expr → Option TO
  | none => some tNoPart
  | some e => (f e).map tPart
def cA (f : Expr → Option TE) : List Expr → Option TA
  | [] => some tNil
  | e :: es => if noStar e then (f e).bind fun te => (cA f es).map fun ta => tCons te ta else none
def maybeD : Expr → Bool
  | .List .. => false
  | .Tuple .. => false
  | .BinOp .. => false
  | .Constant .. => false
  | _ => true
def seqOr (K : PySem.W.Frag) (b : Bool) (t : TE) : List (Bool × TI) := if b then [(false, iSeq K t), (true, iKeys t)] else [(false, iSeq K t)]
/-- what is walked: the ways to read it; true: under a lock -/
def cI (g : GT) (S : SC) (f : Expr → Option TE) (tg : Expr) : Expr → Option (List (Bool × TI))
  | .Call (.Name x p) es [] q =>
    if x = "range" then (if glb g S.sc x then (match es with
      | [a] => (cA f [a]).map fun t => [(false, iRng1 t)]
      | [a, b] => (cA f [a, b]).map fun t => [(false, iRng2 t)]
      | _ => none) else none)
    else if x = "enumerate" then (if glb g S.sc x then (match es, tg with
      | [a], .Tuple _ _ _ => (cA f [a]).map fun t => [(false, iEnumU g.K t), (true, iEnumU g.K t)]
      | _, _ => none) else none)
    else if x = "zip" then (if glb g S.sc x then (match es, tg with
      | [a, b], .Tuple _ _ _ => (cA f [a, b]).map fun t => [(false, iZip g.K t)]
      | _, _ => none) else none)
    else (f (.Call (.Name x p) es [] q)).map (seqOr g.K true)
  | .Call (.Attribute o m ap) [] [] q =>
    if m = "values" then (if noSup o && (ap.endLine == q.line) then (f o).map fun t => [(true, iValsU t)] else none)
    else if m = "items" then (if noSup o && (ap.endLine == q.line) then (match tg with
      | .Tuple _ _ _ => (f o).map fun t => [(true, iItemsU t)]
      | _ => none) else none)
    else (f (.Call (.Attribute o m ap) [] [] q)).map (seqOr g.K true)
  | e => (f e).map (seqOr g.K (maybeD e))
def orS : List TS → TS
  | [] => fun _ _ _ => False
  | [a] => a
  | a :: b :: r => fun D σ H => a D σ H ∨ orS (b :: r) D σ H
/-- a for over what is walked; a list gathered over it -/
@[irreducible] def forU (J : It) (g : TG) (tb : TS) (D : Ends) (σ : L2.St) (H1 : Hp) : Prop := ∃ W : Nat → Nat → L2.St → Hp → Prop, (∃ m, W 0 m σ H1) ∧ ∀ i m σ H, W i m σ H →
  (J.stop i H ∧ D.nx σ H) ∨ (J.go i H ∧ ∃ N : L2.St → Hp → Prop, (∀ σ' H', N σ' H' → ∃ m', m' < m ∧ W (i + 1) m' σ' H') ∧ ∀ x H', J.yld i H x H' → g x σ H' fun σ2 H2 => tb { D with nx := N, ct := N, bk := D.nx } σ2 H2)
@[irreducible] def lcU (J : It) (g : TG) (tt : TT) (te : TE) (vs : List Nat) (σ : L2.St) (H1 : Hp) (Q : VK) : Prop := ∀ D, H1 D = none → ∃ W : Nat → Nat → Hp → Prop, (∃ m, W 0 m (upd H1 D (.lst []))) ∧ ∀ i m H, W i m H →
  (J.stop i H ∧ Q (.ref D) H) ∨ (J.go i H ∧ ∃ Nx : Hp → Prop, (∀ H', Nx H' → ∃ m', m' < m ∧ W (i + 1) m' H') ∧ ∀ x H', J.yld i H x H' → g x (wipe σ vs) H' fun σ2 H2 => wipe σ2 vs = wipe σ vs ∧ tt σ2 H2 fun b H3 =>
    cnd b (te σ2 H3 fun y H4 => ∃ acc, H4 D = some (.lst acc) ∧ acc.length < sizeLine ∧ Nx (upd H4 D (.lst (acc ++ [y])))) (Nx H3))
def tForU (wi : TI) (g : TG) (tb : TS) : TS := fun D σ H => wi σ H fun J H1 => forU J g tb D σ H1
def tLcU (wi : TI) (g : TG) (tt : TT) (te : TE) (vs : List Nat) : TE := fun σ H Q => wi σ H fun J H1 => lcU J g tt te vs σ H1 Q
theorem cnd_if {b : Bool} {A B : Prop} : cnd b A B = if b = true then A else B := by
  cases b
  · rw [cnd_f]; rfl
  · rw [cnd_t]; rfl
theorem tForU_eq : tForU = tFor := by
  funext wi g tb D σ H
  unfold tForU forU
  rfl
theorem tLcU_eq : tLcU = tLc := by
  funext wi g tt te vs σ H Q
  unfold tLcU lcU
  simp only [cnd_if]
  rfl
def lcE (ws : List (Bool × TI)) (g : TG) (tt : TT) (te : TE) (vs : List Nat) : TE := orE (ws.map fun w => if w.1 then tLockE (tLcU w.2 g tt te vs) else tLcU w.2 g tt te vs)
def lcS (ws : List (Bool × TI)) (g : TG) (tt : TT) (te : TE) (vs : List Nat) (i : Nat) : TS := orS (ws.map fun w => if w.1 then tLock (tAsg (tLcU w.2 g tt te vs) (gName i)) else tAsg (tLcU w.2 g tt te vs) (gName i))
def forS (ws : List (Bool × TI)) (g : TG) (tb : TS) : TS := orS (ws.map fun w => if w.1 then tLock (tForU w.2 g tb) else tForU w.2 g tb)
/-- sum(o.values()) -/
def sumV (x : Str) : List Expr → Option Expr
  | [.Call (.Attribute o m ap) [] [] mp] => if x = "sum" ∧ m = "values" ∧ noSup o = true ∧ (ap.endLine == mp.line) = true then some o else none
  | _ => none
theorem sumV_ok {x : Str} {es : List Expr} {o : Expr} (h : sumV x es = some o) : x = "sum" ∧ ∃ ap mp, es = [.Call (.Attribute o "values" ap) [] [] mp] ∧ noSup o = true ∧ (ap.endLine == mp.line) = true := by
  unfold sumV at h
  split at h
  · split at h
    · rename_i c
      cases h
      obtain ⟨c1, c2, c3, c4⟩ := c
      subst c2
      exact ⟨c1, _, _, rfl, c3, c4⟩
    · cases h
  · cases h
/-- forms of their own -/
def orO {α : Type} : Option α → Option α → Option α
  | some t, _ => some t
  | none, o => o
theorem orO_ok {α : Type} {a b : Option α} {t : α} (h : orO a b = some t) : a = some t ∨ b = some t := by
  cases a with
  | none => exact .inr h
  | some x => exact .inl h
@[irreducible] def tItems (te : TE) : TE := LiI.tListItems te
@[irreducible] def tLRg1 (ta : TE) : TE := tLstRg (tRg1 ta)
@[irreducible] def tLRg2 (ta tb : TE) : TE := tLstRg (tRg2 ta tb)
@[irreducible] def tRev (K : PySem.W.Frag) (te : TE) : TE := tRevL K te
def spC (g : GT) (S : SC) (f : Expr → Option TE) : Expr → Option TE
  | .Call (.Name x _) [.Call (.Attribute o m ap) [] [] q] [] _ => if x = "list" ∧ m = "items" ∧ noSup o = true ∧ (ap.endLine == q.line) = true ∧ glb g S.sc "list" = true ∧ S.cm = true then (f o).map tItems else none
  | .Call (.Name x _) [.Call (.Name y _) [a] [] _] [] _ => if x = "list" ∧ y = "range" ∧ noStar a = true ∧ glb g S.sc "list" = true ∧ glb g S.sc "range" = true ∧ S.cm = true then (f a).map tLRg1 else none
  | .Call (.Name x _) [.Call (.Name y _) [a, b] [] _] [] _ => if x = "list" ∧ y = "range" ∧ noStar a = true ∧ noStar b = true ∧ glb g S.sc "list" = true ∧ glb g S.sc "range" = true ∧ S.cm = true then (f a).bind fun ta => (f b).map fun tb => tLRg2 ta tb else none
  | .Call (.Attribute o m ap) [e, e2] [] p => if m = "setdefault" ∧ noSup o = true ∧ (ap.endLine == p.line) = true ∧ noStar e = true ∧ noStar e2 = true then (f o).bind fun to => (f e).bind fun ta => (f e2).map fun tb => tDSetd to ta tb else none
  | .Subscript e (.Slice none none (some (.UnaryOp .USub (.Constant (.int 1) _ _) _)) _) _ => (f e).map (tRev g.K)
  | _ => none
mutual
def cE (g : GT) : Nat → SC → (L2.St → XK) → Expr → Option TE
  | 0, _, _, _ => none
  | n + 1, S, E, e => match e with
    | .Name x _ => cName g S.sc x
    | .Constant c _ _ => cConst c
    | .BinOp a op b _ => (rBin g.K op).bind fun r => (cE g n S E a).bind fun ta => (cE g n S E b).map fun tb => tOp r ta tb
    | .UnaryOp op a _ => (match op with
      | .USub => (cE g n S E a).map fun ta => tUn rNegU ta
      | .Not => (cE g n S E a).map fun ta => tNotU ta
      | _ => none)
    | .BoolOp op vs p => (match vs with
      | [a] => cE g n S E a
      | a :: b :: r => (cE g n S E a).bind fun ta => (cE g n S E (.BoolOp op (b :: r) p)).map fun tb => (match op with
        | .And => tAndU ta tb
        | .Or => tOrU ta tb)
      | [] => none)
    | .Compare a ops bs _ => (match ops, bs with
      | [op], [b] => if noSet b then (rCmp g.K op).bind fun r => (cE g n S E a).bind fun ta => (cE g n S E b).map fun tb => tOp r ta tb else none
      | [op, op'], [b, c] => if noSet c then (rCmp g.K op).bind fun r => (rCmp g.K op').bind fun r' => (cE g n S E a).bind fun ta => (cE g n S E b).bind fun tb => (cE g n S E c).map fun tc => tChU r r' ta tb tc else none
      | _, _ => none)
    | .Call f es kw p => orO (spC g S (cE g n S E) (.Call f es kw p)) (match f, kw with
      | .Name x _, [] => (match sumV x es with
        | some o => if glb g S.sc "sum" && S.cm then (cE g n S E o).map tSumVals else none
        | none => (cA (cE g n S E) es).bind fun ta => cCallN g S E x es.isEmpty ta)
      | .Attribute o m ap, [] => if noSup o && decide (es.length < 20) then (cE g n S E o).bind fun to => (cA (cE g n S E) es).bind fun ta => cCallM g S.cm E m es.isEmpty (ap.endLine == p.line) to ta else none
      | _, _ => none)
    | .Attribute o f _ => if noSup o then (cE g n S E o).map fun to => (match S.xv with
      | none => tFld g.K to f
      | some (a, c, d) => fun σ H Q => tFld g.K to f σ H Q ∨ tFldX g.K a c d to f σ H Q) else none
    | .Subscript a b p => orO (spC g S (cE g n S E) (.Subscript a b p)) (match b with
      | .Slice lo hi st _ => (match st with
        | none => (cE g n S E a).bind fun ta => (cO (cE g n S E) lo).bind fun tl => (cO (cE g n S E) hi).map fun th => tSl (rSlU g.K) ta tl th
        | some _ => none)
      | b => (cE g n S E a).bind fun ta => (cE g n S E b).map fun tb => tOp (rIxU g.K) ta tb)
    | .List es _ => (cA (cE g n S E) es).map tLst
    | .Tuple es _ _ => (cA (cE g n S E) es).map tTup
    | .Dict ks vs _ => (match ks, vs with
      | [], [] => some fun σ H Q => tDNewK σ H Q ∨ tDNewT σ H Q
      | k :: ks, v :: vs => if (k :: ks).all (·.isSome) && decide ((k :: ks).length = (v :: vs).length) && decide ((k :: ks).length ≤ 15) then (cP (cE g n S E) (k :: ks) (v :: vs)).map tDisp else none
      | _, _ => none)
    | .IfExp c a b _ => (cT g n S E c).bind fun tc => (cE g n S E a).bind fun ta => (cE g n S E b).map fun tb => uIfE tc ta tb
    | .ListComp elt gens scope _ => (match gens with
      | [⟨tg, iter, ifs, k⟩] =>
        if blkC g.N S.sc scope (ownOf g.N scope) && noSet iter && (k == 0) && S.cm then
          (cI g S (cE g n S E) tg iter).bind fun wi => (cTg g (S.blk scope) tg).bind fun tt => (cF (cT g n (S.blk scope) EZ) ifs).bind fun tf =>
            (cE g n (S.blk scope) EZ elt).map fun te => lcE wi tt tf te ((ownOf g.N scope).map (·.2))
        else none
      | _ => none)
    | _ => none
def cT (g : GT) : Nat → SC → (L2.St → XK) → Expr → Option TT
  | 0, _, _, _ => none
  | n + 1, S, E, e => match e with
    | .UnaryOp op a _ => (match op with
      | .Not => (cT g n S E a).map tNot
      | _ => none)
    | .BoolOp op vs p => (match vs with
      | [a] => cT g n S E a
      | a :: b :: r => (cT g n S E a).bind fun ta => (cT g n S E (.BoolOp op (b :: r) p)).map fun tb => (match op with
        | .And => uAnd ta tb
        | .Or => uOr ta tb)
      | [] => none)
    | .Compare a ops bs _ => (match ops, bs with
      | [op], [b] => if noSet b then (rCmp g.K op).bind fun r => (cE g n S E a).bind fun ta => (cE g n S E b).map fun tb => tBo (tOp r ta tb) else none
      | [op, op'], [b, c] => if noSet c then (rCmp g.K op).bind fun r => (rCmp g.K op').bind fun r' => (cE g n S E a).bind fun ta => (cE g n S E b).bind fun tb => (cE g n S E c).map fun tc => tBo (tChU r r' ta tb tc) else none
      | _, _ => none)
    | .IfExp .. => none
    | e => (cE g n S E e).map (tTru g.K)
end
end Rf
namespace Rf
open PySem L2 PySem.Spec PyProof.Rows

theorem badName_ok {x : Str} (h : badName x = false) : (x == ("__debug__" : Str)) = false ∧ (x == ("__classdict__" : Str)) = false := by
  unfold badName at h
  exact Bool.or_eq_false_iff.mp h
theorem nameK_own {sc : Scope} {x : Str} (h : nameK sc x = some true) : Vis sc x := by
  unfold nameK at h
  split at h
  · exact .inl (by assumption)
  · exact .inr (.inl (by assumption))
  · exact .inr (.inr (by assumption))
  · cases h
  · cases h
theorem nameK_glob {sc : Scope} {x : Str} (h : nameK sc x = some false) : sc.names.lookup x = some .globalImplicit := by
  unfold nameK at h
  split at h
  · cases h
  · cases h
  · cases h
  · assumption
  · cases h
section
variable {g : GT} {S : SC} {E : L2.St → XK} {X : Cx}
theorem OkE.gl (O : OkE g S E X) {x : Str} (h : nameK S.sc x = some false) : Gl X x := by
  have e := nameK_glob h
  rw [← O.sc] at e
  exact e
theorem cName_ok (O : OkE g S E X) {x : Str} {pos : Pos} {t : TE} (h : cName g S.sc x = some t) : PE X (.Name x pos) t := by
  unfold cName at h
  cases hb : badName x with
  | true => rw [hb] at h; cases h
  | false =>
    rw [hb] at h
    obtain ⟨hd, hc⟩ := badName_ok hb
    cases hk : nameK S.sc x with
    | none => rw [hk] at h; cases h
    | some b =>
      rw [hk] at h
      cases b with
      | true =>
        obtain ⟨i, hi, rfl⟩ := Option.map_eq_some_iff.mp (show (ixO g.N x).map tV = some t from h)
        have v := nameK_own hk
        rw [← O.sc] at v
        have hN := ixO_ok hi
        rw [← O.N] at hN
        exact pe_v hN v hd hc
      | false =>
        have hg := O.gl hk
        have h2 : (match g.G.lookup x with
          | some (.con v) => some (tC v)
          | some .bl => (tyNames.lookup x).map fun T => tC (.ty T)
          | _ => none) = some t := h
        cases hG : g.G.lookup x with
        | none => rw [hG] at h2; cases h2
        | some k =>
          rw [hG] at h2
          cases k with
          | exc C sp dvs => cases h2
          | bex C => cases h2
          | con v =>
            cases h2
            obtain ⟨u, hu, r⟩ := O.con x v hG
            exact pe_glob hg hu r hd
          | bl =>
            obtain ⟨T, hT, rfl⟩ := Option.map_eq_some_iff.mp (show (tyNames.lookup x).map (fun T => tC (.ty T)) = some t from h2)
            have m := PySem.mem_of_lookup hT
            have ok := List.all_eq_true.mp tyNames_ok _ m
            obtain ⟨o1, o2⟩ := Bool.and_eq_true_iff.mp ok
            exact pe_bltn (v := .ty T) hg (O.bl x hG) (of_decide_eq_true o1) rfl (of_decide_eq_true o2) hd
          | fn _ _ => cases h2
          | cls _ _ _ => cases h2
theorem cConst_ok {c : Const} {j : Nat} {pos : Pos} {t : TE} (h : cConst c = some t) : PE X (.Constant c j pos) t := by
  cases c <;> first | cases h | skip
  · exact pe_non
  · exact pe_bl
  · exact pe_int
  · exact pe_str
theorem cA_ok {f : Expr → Option TE} (hf : ∀ e t, f e = some t → PE X e t) : ∀ {es : List Expr} {t : TA}, cA f es = some t → PA X es t ∧ es.all noStar = true ∧ (es = [] → t = tNil)
  | [], t, h => by
    cases h
    exact ⟨pa_nil, rfl, fun _ => rfl⟩
  | e :: es, t, h => by
    unfold cA at h
    cases hs : noStar e with
    | false => rw [hs] at h; cases h
    | true =>
      rw [hs] at h
      obtain ⟨te, h1, h2⟩ := Option.bind_eq_some_iff.mp (show ((f e).bind fun te => (cA f es).map fun ta => tCons te ta) = some t from h)
      obtain ⟨ta, h3, rfl⟩ := Option.map_eq_some_iff.mp h2
      obtain ⟨q1, q2, _⟩ := cA_ok hf h3
      exact ⟨pa_cons (hf e te h1) q1 (star_cons hs), by simp [hs, q2], fun z => nomatch z⟩
theorem cO_ok {f : Expr → Option TE} (hf : ∀ e t, f e = some t → PE X e t) {e : Option Expr} {t : TO} (h : cO f e = some t) : PO X e t := by
  cases e with
  | none => cases h; exact po_none
  | some e =>
    obtain ⟨te, h1, rfl⟩ := Option.map_eq_some_iff.mp (show (f e).map tPart = some t from h)
    exact po_some (hf e te h1)
theorem isi2_ok {X : Cx} {a : Addr} {c : Value} {d : Option Addr} (ev : EvC X a c d) : CallR X (.builtin "isinstance") (rIsi2 X.K a c d) := by
  unfold rIsi2
  exact callOr isiU_ok (call_isX ev)
theorem bl_ok (O : OkE g S E X) {x : Str} {p pos : Pos} {es : List Expr} {ta : TA} {t : TE} (hs : es.all noStar = true) (hg : Gl X x) (hd : (x == ("__debug__" : Str)) = false) (ha : PA X es ta) (hG : g.G.lookup x = some .bl)
    (h : (if es.isEmpty then none else (blt g.K x).bind fun b => if S.cm || b.cool then some (tCB b.r ta) else none) = some t) : PE X (.Call (.Name x p) es [] pos) t := by
  cases es with
  | nil => cases h
  | cons e es =>
    obtain ⟨s1, s2⟩ := Bool.and_eq_true_iff.mp (show (noStar e && es.all noStar) = true from hs)
    obtain ⟨b, hbl, h3⟩ := Option.bind_eq_some_iff.mp (show ((blt g.K x).bind fun b => if S.cm || b.cool then some (tCB b.r ta) else none) = some t from h)
    by_cases hc : (S.cm || b.cool) = true
    · rw [if_pos hc] at h3
      cases h3
      have ok := b.ok X O.K (fun z => O.calm (by rw [z, Bool.or_false] at hc; exact hc)) O.un
      have bo := b.boot
      rcases b.kind with ⟨id, e1⟩ | ⟨T, e1⟩
      · rw [e1] at ok bo
        exact pe_callB ok hg (O.bl x hG) bo ha b.nm hd (star_cons s1) (star_none s2)
      · rw [e1] at ok bo
        exact pe_callTy ok hg (O.bl x hG) bo ha b.nm hd (star_cons s1) (star_none s2)
    · rw [if_neg hc] at h3
      cases h3
theorem cCallN_ok (O : OkE g S E X) {x : Str} {p pos : Pos} {es : List Expr} {ta : TA} {t : TE} (hs : es.all noStar = true) (hz : es = [] → ta = tNil) (ha : PA X es ta) (h : cCallN g S E x es.isEmpty ta = some t) : PE X (.Call (.Name x p) es [] pos) t := by
  unfold cCallN at h
  cases hb : badName x with
  | true => rw [hb] at h; cases h
  | false =>
    rw [hb] at h
    obtain ⟨hd, hc⟩ := badName_ok hb
    rw [if_neg (by simp)] at h
    split at h
    · rename_i hk
      have hg := O.gl hk
      split at h
      · rename_i sp dvs hx hG
        by_cases cm : S.cm = true
        · rw [if_pos cm] at h
          cases h
          obtain ⟨f, k, ⟨fd, ps, ds, F, b, d⟩, hr, hm, kp⟩ := O.fn cm x sp dvs hG
          cases es with
          | nil =>
            rw [hz rfl]
            exact pe_callSD0 F hr hg hm kp b d O.ps hd
          | cons e es =>
            obtain ⟨s1, s2⟩ := Bool.and_eq_true_iff.mp (show (noStar e && es.all noStar) = true from hs)
            exact pe_callSD F hr hg hm kp b d O.ps ha hd (star_cons s1) (star_none s2)
        · rw [if_neg cm] at h
          cases h
      · rename_i C sp dvs hx hG
        by_cases cm : S.cm = true
        · rw [if_pos cm] at h
          cases h
          obtain ⟨f, k, ⟨fd, ps, ds, F, b, d⟩, hr, hm, mk⟩ := O.cls cm x C sp dvs hG
          cases es with
          | nil =>
            rw [hz rfl]
            exact pe_makeSD0 mk F hr hg hm b d O.ps hd
          | cons e es =>
            obtain ⟨s1, s2⟩ := Bool.and_eq_true_iff.mp (show (noStar e && es.all noStar) = true from hs)
            exact pe_makeSD mk F hr hg hm b d O.ps ha hd (star_cons s1) (star_none s2)
        · rw [if_neg cm] at h
          cases h
      · rename_i hx hG
        exact bl_ok O hs hg hd ha hG h
      · rename_i a c d hx hG
        cases es with
        | nil => cases h
        | cons e es =>
          have h2 : (if x = "isinstance" then some (tCB (rIsi2 g.K a c d) ta) else (blt g.K x).bind fun b => if S.cm || b.cool then some (tCB b.r ta) else none) = some t := h
          by_cases hx2 : x = "isinstance"
          · rw [if_pos hx2] at h2
            cases h2
            subst hx2
            obtain ⟨s1, s2⟩ := Bool.and_eq_true_iff.mp (show (noStar e && es.all noStar) = true from hs)
            rw [← O.K]
            exact pe_callB (isi2_ok (O.xv a c d hx)) hg (O.bl _ hG) boot_isinstance ha (by decide) hd (star_cons s1) (star_none s2)
          · rw [if_neg hx2] at h2
            exact bl_ok O hs hg hd ha hG h2
      · rename_i a c d hx hG
        cases es with
        | nil => cases h
        | cons e es =>
          obtain ⟨sp, hH, rfl⟩ := Option.map_eq_some_iff.mp (show (g.Hs.lookup x).map (fun sp => tCallE (sp a c d) ta) = some t from h)
          obtain ⟨s1, s2⟩ := Bool.and_eq_true_iff.mp (show (noStar e && es.all noStar) = true from hs)
          obtain ⟨f, k, ⟨fd, ps, F, b⟩, hr, hm, kp⟩ := O.hfn x sp hH
          exact pe_callE F hr (O.xv a c d hx) hg hm kp b (fun σ pins H s e s' I c => passL pins σ H s e s' I c) ha hd (star_cons s1) (star_none s2)
      · cases h
    · cases h
theorem few_ok {es : List Expr} {env : Env} {cpos : Pos} (hs : es.all noStar = true) (hl : es.length < 20) : ((backTo cpos (starEach es env)).all (fun x => !x.1) && (backToKw cpos (keywordEach [] env)).all (fun x => x.1.isSome)
      && decide (es.length + ([] : List Keyword).length + (if ([] : List Keyword).isEmpty then 0 else 1) < 30)) = true := by
  have h1 : (backTo cpos (starEach es env)).all (fun x => !x.1) = true := by
    have h2 := star_none (pos := cpos) (env := env) hs
    rw [List.any_eq_false] at h2
    rw [List.all_eq_true]
    intro y hy
    have := h2 y hy
    simpa using this
  rw [h1]
  show (true && true && decide (es.length + 0 + 0 < 30)) = true
  simp
  omega
theorem mt_one (O : OkE g S E X) {m : Str} {o : Expr} {es : List Expr} {ap pos : Pos} {to : TE} {ta : TA} (b : BM g.K m) (ho : PE X o to) (hs : es.all noStar = true) (ha : PA X es ta) (hb : noSup o = true) (hl : es.length < 20) (hn : (ap.endLine == pos.line) = true)
    (h0 : es ≠ []) : PE X (.Call (.Attribute o m ap) es [] pos) (tBM g.K b.T b.r to ta) := by
  cases es with
  | nil => exact absurd rfl h0
  | cons e es =>
    obtain ⟨s1, s2⟩ := Bool.and_eq_true_iff.mp (show (noStar e && es.all noStar) = true from hs)
    have q := pe_bm (X := X) b.pa b.slot b.hty (b.ok X O.K O.un) ho ha (base_no hb) (few_ok hs hl) hn (star_cons s1) (star_none s2)
    rw [O.K] at q
    exact q
theorem mt_zero (O : OkE g S E X) {m : Str} {o : Expr} {ap pos : Pos} {to : TE} (b : BM g.K m) (ho : PE X o to) (hb : noSup o = true) (hn : (ap.endLine == pos.line) = true) : PE X (.Call (.Attribute o m ap) [] [] pos) (tBM0 g.K b.T b.r to) := by
  have q := pe_bm0 (X := X) b.pa b.slot b.hty (b.ok X O.K O.un) ho (base_no hb) hn
  rw [O.K] at q
  exact q
theorem mtL_ok (O : OkE g S E X) {m : Str} {o : Expr} {es : List Expr} {ap pos : Pos} {to : TE} {ta : TA} (ho : PE X o to) (hs : es.all noStar = true) (ha : PA X es ta) (hb : noSup o = true) (hl : es.length < 20) (hn : (ap.endLine == pos.line) = true)
    (h0 : es ≠ []) : ∀ {bs : List (BM g.K m)}, bs ≠ [] → PE X (.Call (.Attribute o m ap) es [] pos) (tMtL g.K m to ta bs)
  | [], z => absurd rfl z
  | [b], _ => mt_one O b ho hs ha hb hl hn h0
  | b :: c :: r, _ => peOr (mt_one O b ho hs ha hb hl hn h0) (mtL_ok O ho hs ha hb hl hn h0 (bs := c :: r) (fun z => nomatch z))
theorem mtL0_ok (O : OkE g S E X) {m : Str} {o : Expr} {ap pos : Pos} {to : TE} (ho : PE X o to) (hb : noSup o = true) (hn : (ap.endLine == pos.line) = true) :
    ∀ {bs : List (BM g.K m)}, bs ≠ [] → PE X (.Call (.Attribute o m ap) [] [] pos) (tMtL0 g.K m to bs)
  | [], z => absurd rfl z
  | [b], _ => mt_zero O b ho hb hn
  | b :: c :: r, _ => peOr (mt_zero O b ho hb hn) (mtL0_ok O ho hb hn (bs := c :: r) (fun z => nomatch z))
theorem meth_form {o : Expr} {m : Str} {es : List Expr} {ap pos : Pos} {env : Env} (hb : noSup o = true) (hs : es.all noStar = true) (hl : es.length < 20) (hn : (ap.endLine == pos.line) = true) :
    eval (.Call (.Attribute o m ap) es [] pos) env = (do
      let ov ← eval o env
      standAt ap.atName
      let (f, first) ← holding [ov] (getMethod ov m (do return (← importBound o env).getD true))
      callWith pos f first (backTo pos (starEach es env)) (backToKw pos (keywordEach [] env))) := by
  show (do
    let ov ← attributeBase o m env (eval o env)
    standAt ap.atName
    methodCall o m ap pos env ov (es.length + ([] : List Keyword).length) (backTo pos (starEach es env)) (backToKw pos (keywordEach [] env))) = _
  rw [base_no hb]
  have few : methodCallForm (es.length + ([] : List Keyword).length) (backTo pos (starEach es env)) (backToKw pos (keywordEach [] env)) = true := few_ok hs hl
  unfold methodCall
  rw [few]
  unfold methodCallPos calleeOf
  rw [hn]
  rfl
theorem orE_ok {e : Expr} : ∀ {ts : List TE}, (∀ t ∈ ts, PE X e t) → PE X e (orE ts)
  | [], _ => ⟨fun _ _ _ _ _ _ h => h.elim⟩
  | [a], h => h a (by simp)
  | a :: b :: r, h => peOr (h a (by simp)) (orE_ok fun t ht => h t (List.mem_cons_of_mem _ ht))
theorem mOf_mem {m : Str} {c : Addr × Sp × List V} (h : c ∈ mOf g m) : (m, c.1, c.2.1, c.2.2) ∈ g.M := by
  unfold mOf at h
  obtain ⟨p, hp, e⟩ := List.mem_filterMap.mp h
  by_cases q : p.1 = m
  · rw [if_pos q] at e
    cases e
    rw [← q]
    exact hp
  · rw [if_neg q] at e
    cases e
theorem cCallM_ok (O : OkE g S E X) {m : Str} {o : Expr} {ap pos : Pos} {es : List Expr} {to : TE} {ta : TA} {t : TE} (ho : PE X o to) (hs : es.all noStar = true) (hz : es = [] → ta = tNil) (ha : PA X es ta) (hb : noSup o = true) (hl : es.length < 20)
    (h : cCallM g S.cm E m es.isEmpty (ap.endLine == pos.line) to ta = some t) : PE X (.Call (.Attribute o m ap) es [] pos) t := by
  unfold cCallM at h
  split at h
  · rename_i c cs hM
    by_cases hn : ((ap.endLine == pos.line) && S.cm) = true
    · rw [if_pos hn] at h
      obtain ⟨hn, cm⟩ := Bool.and_eq_true_iff.mp hn
      cases h
      refine orE_ok fun t ht => ?_
      obtain ⟨⟨C, sp, dvs⟩, hc, rfl⟩ := List.mem_map.mp ht
      rw [← hM] at hc
      obtain ⟨f, k, ⟨fd, ps, ds, F, b, d⟩, hr, c, me⟩ := O.me cm m C sp dvs (mOf_mem hc)
      cases es with
      | nil =>
        rw [hz rfl]
        exact pe_methSD0 ho c me F hr b d O.ps (meth_form hb hs hl hn)
      | cons e es =>
        obtain ⟨s1, s2⟩ := Bool.and_eq_true_iff.mp (show (noStar e && es.all noStar) = true from hs)
        exact pe_methSD ho c me F hr b d O.ps ha (star_cons s1) (star_none s2) (meth_form hb hs hl hn)
    · rw [if_neg hn] at h
      cases h
  · split at h
    · cases h
    · rename_i b r hB
      by_cases hn : (ap.endLine == pos.line) = true
      · rw [if_pos hn] at h
        cases es with
        | nil =>
          cases h
          exact mtL0_ok O ho hb hn (fun z => nomatch z)
        | cons e es =>
          cases h
          exact mtL_ok O ho hs ha hb hl hn (fun z => nomatch z) (fun z => nomatch z)
      · rw [if_neg hn] at h
        cases h
end
end Rf
namespace Rf
open PySem L2 PySem.Spec PyProof.Rows

theorem sl_u {X : Cx} : SlR X (rSlU X.K) := by
  unfold rSlU
  exact SlR.or sl_list (SlR.or sl_str sl_tup)
theorem asg_len {env : Env} : ∀ {es : List Expr}, (assignEach es env).length = es.length
  | [] => rfl
  | e :: es => by
    have ih := asg_len (env := env) (es := es)
    cases e <;> exact congrArg (· + 1) ih
theorem asg_cons {e : Expr} {es : List Expr} {env : Env} (h : noStar e = true) : assignEach (e :: es) env = (false, assign e env) :: assignEach es env := by
  cases e <;> first | rfl | cases h
theorem asg_none {env : Env} : ∀ {es : List Expr}, es.all noStar = true → (assignEach es env).findIdx? (·.1) = none
  | [], _ => rfl
  | e :: es, h => by
    obtain ⟨h1, h2⟩ := Bool.and_eq_true_iff.mp (show (noStar e && es.all noStar) = true from h)
    rw [asg_cons h1, List.findIdx?_cons]
    rw [asg_none h2]
    rfl
section
variable {g : GT} {S : SC} {E : L2.St → XK} {X : Cx}
theorem cTgt_ok (O : OkE g S E X) {e : Expr} {t : TG} (h : cTgt g S e = some t) : PG X e t ∧ noStar e = true := by
  cases e <;> first | cases h | skip
  rename_i x p
  by_cases hw : S.ow x = true
  · have h2 : (if S.ow x = true then (ixO g.N x).map gName else none) = some t := h
    rw [if_pos hw] at h2
    obtain ⟨i, hi, rfl⟩ := Option.map_eq_some_iff.mp h2
    have hN := ixO_ok hi
    rw [← O.N] at hN
    obtain ⟨l1, l2⟩ := O.ow x hw
    exact ⟨pg_name O.nd hN l1 l2, rfl⟩
  · have h2 : (if S.ow x = true then (ixO g.N x).map gName else none) = some t := h
    rw [if_neg hw] at h2
    cases h2
theorem cTgts_ok (O : OkE g S E X) : ∀ {es : List Expr} {t : TGs}, cTgts g S es = some t → PGs X es t
  | [], t, h => by
    cases h
    exact pgs_nil
  | e :: es, t, h => by
    obtain ⟨te, h1, h2⟩ := Option.bind_eq_some_iff.mp (show ((cTgt g S e).bind fun t => (cTgts g S es).map fun u => gCons t u) = some t from h)
    obtain ⟨u, h3, rfl⟩ := Option.map_eq_some_iff.mp h2
    obtain ⟨p1, p2⟩ := cTgt_ok O h1
    exact pgs_cons p1 (cTgts_ok O h3) (by rw [asg_cons p2]; rfl)
theorem cTgt2_ok (O : OkE g S E X) {e : Expr} {t : TG} (h : cTgt2 g S e = some t) : PG X e t ∧ noStar e = true := by
  have other : cTgt g S e = some t → PG X e t ∧ noStar e = true := cTgt_ok O
  cases e <;> first | exact other h | skip
  rename_i es k p
  have h2 : (if es.all noStar && S.cm then (cTgts g S es).map fun t => gTup g.K es.length t else none) = some t := h
  by_cases hs : (es.all noStar && S.cm) = true
  · rw [if_pos hs] at h2
    obtain ⟨hs, cm⟩ := Bool.and_eq_true_iff.mp hs
    obtain ⟨u, h3, rfl⟩ := Option.map_eq_some_iff.mp h2
    rw [← O.K]
    exact ⟨pg_tup (O.calm cm) (cTgts_ok O h3) asg_len (asg_none hs), rfl⟩
  · rw [if_neg hs] at h2
    cases h2
theorem cTgts2_ok (O : OkE g S E X) : ∀ {es : List Expr} {t : TGs}, cTgts2 g S es = some t → PGs X es t
  | [], t, h => by
    cases h
    exact pgs_nil
  | e :: es, t, h => by
    obtain ⟨te, h1, h2⟩ := Option.bind_eq_some_iff.mp (show ((cTgt2 g S e).bind fun t => (cTgts2 g S es).map fun u => gCons t u) = some t from h)
    obtain ⟨u, h3, rfl⟩ := Option.map_eq_some_iff.mp h2
    obtain ⟨p1, p2⟩ := cTgt2_ok O h1
    exact pgs_cons p1 (cTgts2_ok O h3) (by rw [asg_cons p2]; rfl)
theorem cTg_ok (O : OkE g S E X) {e : Expr} {t : TG} (h : cTg g S e = some t) : PG X e t := by
  cases e <;> first | cases h | skip
  · rename_i x p
    exact (cTgt_ok O (show cTgt g S (.Name x p) = some t from h)).1
  · rename_i es k p
    have h2 : (if es.all noStar && S.cm then (cTgts2 g S es).map fun t => gTup g.K es.length t else none) = some t := h
    by_cases hs : (es.all noStar && S.cm) = true
    · rw [if_pos hs] at h2
      obtain ⟨hs, cm⟩ := Bool.and_eq_true_iff.mp hs
      obtain ⟨u, h3, rfl⟩ := Option.map_eq_some_iff.mp h2
      rw [← O.K]
      exact pg_tup (O.calm cm) (cTgts2_ok O h3) asg_len (asg_none hs)
    · rw [if_neg hs] at h2
      cases h2
theorem glb_ok (O : OkE g S E X) {x : Str} (h : glb g S.sc x = true) : Gl X x ∧ X.mg x = none := by
  unfold glb at h
  obtain ⟨h1, h2⟩ := Bool.and_eq_true_iff.mp h
  constructor
  · refine O.gl ?_
    split at h1
    · assumption
    · cases h1
  · refine O.bl x ?_
    split at h2
    · assumption
    · cases h2
theorem iSeq_ok {tg e : Expr} {te : TE} (h : PE X e te) (hK : X.K = g.K) : PI X tg e (iSeq g.K te) := by
  rw [← hK]
  refine ⟨fun pins s σ H R I hw => ?_⟩
  refine thn (h.run pins s σ H _ I hw) fun v s1 ⟨x, H1, I1, r1, q1⟩ => ?_
  cases x <;> first | exact False.elim q1 | skip
  · rename_i z
    obtain ⟨t, rfl⟩ := r1
    have q : R (Its z) H1 := q1
    cases ha : z.cps.all (· < 128)
    · exact wpAny_pyIter_wide ha (pi_one (tk := s1.toks) I1 _ (turn_str _ z t "str_iterator" (.inr rfl)) ⟨_, Heap.get?_push_size _ rfl, rfl, rfl⟩ q)
    · exact wpAny_pyIter_ascii ha (pi_one (tk := s1.toks) I1 _ (turn_str _ z t "str_ascii_iterator" (.inl rfl)) ⟨_, Heap.get?_push_size _ rfl, rfl, rfl⟩ q)
  · rename_i a
    have q2 : (∃ xs, SqL X.K H1 a xs ∧ R (Itl X.K a) H1) ∨ ∃ xs, SqT X.K H1 a xs ∧ R (Itt X.K a) H1 := q1
    cases r1
    rcases q2 with ⟨xs, hq, q⟩ | ⟨xs, hq, q⟩
    · obtain ⟨its, rv, p, hz⟩ := I1.list hq
      refine wpAny_pyIter_list p.isList ?_
      refine ⟨s1.heap.objs.size, [s1.heap.objs.size], _, _, H1, rfl, I1.kept (t' := s1.toks) fun b o e => Heap.get?_push_of_some _ e, turn_list a _, ⟨_, Heap.get?_push_size _ rfl, rfl, rfl⟩, fun b hb => ?_, q⟩
      have e : b = s1.heap.objs.size := by simpa using hb
      subst e
      exact I1.fpOk (Nat.le_refl _) (I1.hok.fresh (Nat.le_refl _))
    · obtain ⟨its, rv, p, hz⟩ := I1.tuple hq
      refine wpAny_pyIter_tuple (show s1.heap.IsTuple a its.toArray from p) ?_
      refine ⟨s1.heap.objs.size, [s1.heap.objs.size], _, _, H1, rfl, I1.kept (t' := s1.toks) fun b o e => Heap.get?_push_of_some _ e, turn_tuple a _, ⟨_, Heap.get?_push_size _ rfl, rfl, rfl⟩, fun b hb => ?_, q⟩
      have e : b = s1.heap.objs.size := by simpa using hb
      subst e
      exact I1.fpOk (Nat.le_refl _) (I1.hok.fresh (Nat.le_refl _))
def PIs (X : Cx) (tg e : Expr) (ws : List (Bool × TI)) : Prop := ∀ w ∈ ws, PI X tg e w.2
theorem pis_one {tg e : Expr} {b : Bool} {t : TI} (h : PI X tg e t) : PIs X tg e [(b, t)] := fun w hw => by
  have e : w = (b, t) := by simpa using hw
  subst e
  exact h
theorem cI_ok (O : OkE g S E X) {f : Expr → Option TE} (hf : ∀ e t, f e = some t → PE X e t) {tg e : Expr} {t : List (Bool × TI)} (h : cI g S f tg e = some t) : PIs X tg e t := by
  have dflt : ∀ {b : Bool} {t : List (Bool × TI)}, ((f e).map (seqOr g.K b)) = some t → PIs X tg e t := fun {b t} h => by
    obtain ⟨te, h1, rfl⟩ := Option.map_eq_some_iff.mp h
    have p1 : PI X tg e (iSeq g.K te) := iSeq_ok (hf e te h1) O.K
    cases b with
    | false => exact pis_one p1
    | true =>
      intro w hw
      rcases List.mem_cons.mp (show w ∈ [(false, iSeq g.K te), (true, iKeys te)] from hw) with e1 | hw
      · subst e1
        exact p1
      · have e1 : w = (true, iKeys te) := by simpa using hw
        subst e1
        exact pi_keys (hf e te h1)
  unfold cI at h
  split at h
  · rename_i x p es q
    by_cases e1 : x = "range"
    · rw [if_pos e1] at h
      subst e1
      by_cases e2 : glb g S.sc "range" = true
      · rw [if_pos e2] at h
        obtain ⟨hg, hm⟩ := glb_ok O e2
        split at h
        · obtain ⟨ta, h1, rfl⟩ := Option.map_eq_some_iff.mp h
          obtain ⟨q1, q2, _⟩ := cA_ok hf h1
          exact pis_one (pi_range1 hg hm q1 (star_cons (by simpa using q2)))
        · rename_i a b
          obtain ⟨ta, h1, rfl⟩ := Option.map_eq_some_iff.mp h
          obtain ⟨q1, q2, _⟩ := cA_ok hf h1
          have q3 : noStar a = true ∧ noStar b = true := by simpa using q2
          exact pis_one (pi_range2 hg hm q1 (by rw [star_cons q3.1, star_cons q3.2]; rfl) (by rw [star_cons q3.2]; rfl))
        · cases h
      · rw [if_neg e2] at h
        cases h
    · rw [if_neg e1] at h
      by_cases e1 : x = "enumerate"
      · rw [if_pos e1] at h
        subst e1
        by_cases e2 : glb g S.sc "enumerate" = true
        · rw [if_pos e2] at h
          obtain ⟨hg, hm⟩ := glb_ok O e2
          split at h
          · obtain ⟨ta, h1, rfl⟩ := Option.map_eq_some_iff.mp h
            obtain ⟨q1, q2, _⟩ := cA_ok hf h1
            rw [← O.K]
            intro w hw
            rcases List.mem_cons.mp hw with e1 | hw
            · subst e1
              exact pi_enumU hg hm q1 (star_cons (by simpa using q2))
            · have e1 : w = (true, iEnumU X.K ta) := by simpa using hw
              subst e1
              exact pi_enumU hg hm q1 (star_cons (by simpa using q2))
          · cases h
        · rw [if_neg e2] at h
          cases h
      · rw [if_neg e1] at h
        by_cases e1 : x = "zip"
        · rw [if_pos e1] at h
          subst e1
          by_cases e2 : glb g S.sc "zip" = true
          · rw [if_pos e2] at h
            obtain ⟨hg, hm⟩ := glb_ok O e2
            split at h
            · rename_i a b _ _ _
              obtain ⟨ta, h1, rfl⟩ := Option.map_eq_some_iff.mp h
              obtain ⟨q1, q2, _⟩ := cA_ok hf h1
              have q3 : noStar a = true ∧ noStar b = true := by simpa using q2
              rw [← O.K]
              exact pis_one (pi_zip hg hm q1 (by rw [star_cons q3.1]) (by rw [star_cons q3.2]; rfl))
            · cases h
          · rw [if_neg e2] at h
            cases h
        · rw [if_neg e1] at h
          exact dflt h
  · rename_i o m ap q
    by_cases e1 : m = "values"
    · rw [if_pos e1] at h
      subst e1
      by_cases hs : (noSup o && (ap.endLine == q.line)) = true
      · rw [if_pos hs] at h
        obtain ⟨s1, s2⟩ := Bool.and_eq_true_iff.mp hs
        obtain ⟨to, h1, rfl⟩ := Option.map_eq_some_iff.mp h
        exact pis_one (pi_valuesU (hf _ _ h1) (base_no s1) s2)
      · rw [if_neg hs] at h
        cases h
    · rw [if_neg e1] at h
      by_cases e1 : m = "items"
      · rw [if_pos e1] at h
        subst e1
        by_cases hs : (noSup o && (ap.endLine == q.line)) = true
        · rw [if_pos hs] at h
          obtain ⟨s1, s2⟩ := Bool.and_eq_true_iff.mp hs
          split at h
          · obtain ⟨to, h1, rfl⟩ := Option.map_eq_some_iff.mp h
            exact pis_one (pi_itemsU (hf _ _ h1) (base_no s1) s2)
          · cases h
        · rw [if_neg hs] at h
          cases h
      · rw [if_neg e1] at h
        exact dflt h
  · exact dflt h
theorem orS_ok {st : Stmt} : ∀ {ts : List TS}, (∀ t ∈ ts, PS X st t) → PS X st (orS ts)
  | [], _ => ⟨fun _ _ _ _ _ _ h => h.elim⟩
  | [a], h => h a (by simp)
  | a :: b :: r, h => psOr (h a (by simp)) (orS_ok fun t ht => h t (List.mem_cons_of_mem _ ht))
theorem lcE_ok {e : Expr} {ws : List (Bool × TI)} {gt : TG} {tt : TT} {te : TE} {vs : List Nat} (h : ∀ w ∈ ws, PE X e (tLc w.2 gt tt te vs)) : PE X e (lcE ws gt tt te vs) := orE_ok fun t ht => by
  obtain ⟨w, hw, rfl⟩ := List.mem_map.mp ht
  rw [tLcU_eq]
  cases w.1 with
  | true => exact pe_lock (h w hw)
  | false => exact h w hw
theorem lcS_ok {st : Stmt} {ws : List (Bool × TI)} {gt : TG} {tt : TT} {te : TE} {vs : List Nat} {i : Nat} (h : ∀ w ∈ ws, PS X st (tAsg (tLc w.2 gt tt te vs) (gName i))) : PS X st (lcS ws gt tt te vs i) := orS_ok fun t ht => by
  obtain ⟨w, hw, rfl⟩ := List.mem_map.mp ht
  rw [tLcU_eq]
  cases w.1 with
  | true => exact ps_lock (h w hw)
  | false => exact h w hw
theorem forS_ok {st : Stmt} {ws : List (Bool × TI)} {gt : TG} {tb : TS} (h : ∀ w ∈ ws, PS X st (tFor w.2 gt tb)) : PS X st (forS ws gt tb) := orS_ok fun t ht => by
  obtain ⟨w, hw, rfl⟩ := List.mem_map.mp ht
  rw [tForU_eq]
  cases w.1 with
  | true => exact ps_lock (h w hw)
  | false => exact h w hw
theorem cP_ok {f : Expr → Option TE} (hf : ∀ e t, f e = some t → PE X e t) {pos : Pos} : ∀ {ks : List (Option Expr)} {vs : List Expr} {t : List (TE × TE)}, cP f ks vs = some t → PPs X pos ks vs t
  | [], [], t, h => by
    cases h
    exact pps_nil
  | some k :: ks, v :: vs, t, h => by
    obtain ⟨tk, h1, h2⟩ := Option.bind_eq_some_iff.mp h
    obtain ⟨tv, h3, h4⟩ := Option.bind_eq_some_iff.mp h2
    obtain ⟨r, h5, rfl⟩ := Option.map_eq_some_iff.mp h4
    exact pps_cons (hf _ _ h1) (hf _ _ h3) (cP_ok hf h5)
  | none :: _, _, _, h => by cases h
  | [], _ :: _, _, h => by cases h
  | some _ :: _, [], _, h => by cases h
theorem pw_of {op : BoolOp} {vs : List Expr} {p : Pos} {t : TT} (h : PT X (.BoolOp op vs p) t) : PW X (.BoolOp op vs p) t := ⟨fun whole pins s σ H Q I hw => h.run pins s σ H Q I hw⟩
theorem isN {op : CmpOp} {a b : Expr} {pos : Pos} {r : R2} {ta tb : TE} (O : OkE g S E X) (hr : rCmp g.K op = some r) (ha : PE X a ta) (hb : PE X b tb) (hs : noSet b = true) : PE X (.Compare a [op] [b] pos) (tOp r ta tb) := by
  rw [← O.K] at hr
  exact pe_cmpR (rCmp_ok O.un hr) ha hb (mark_no hs)
theorem spC_ok (O : OkE g S E X) {f : Expr → Option TE} (hf : ∀ e t, f e = some t → PE X e t) {e : Expr} {t : TE} (h : spC g S f e = some t) : PE X e t := by
  unfold spC at h
  split at h
  · split at h
    · rename_i c
      obtain ⟨rfl, rfl, c1, c2, c3, c4⟩ := c
      obtain ⟨to, h1, rfl⟩ := Option.map_eq_some_iff.mp h
      obtain ⟨g1, g2⟩ := glb_ok O c3
      unfold tItems
      exact LiI.pe_listItems (O.calm c4) (hf _ _ h1) g1 g2 PyProof.Rows.boot_list (base_no c1) c2 rfl
    · cases h
  · split at h
    · rename_i c
      obtain ⟨rfl, rfl, c1, c2, c3, c4⟩ := c
      obtain ⟨to, h1, rfl⟩ := Option.map_eq_some_iff.mp h
      obtain ⟨g1, g2⟩ := glb_ok O c2
      obtain ⟨g3, g4⟩ := glb_ok O c3
      unfold tLRg1
      exact pe_listRg (O.calm c4) g1 g2 (prg_1 g3 g4 (hf _ _ h1) (star_cons c1)) rfl
    · cases h
  · split at h
    · rename_i c
      obtain ⟨rfl, rfl, c0, c1, c2, c3, c4⟩ := c
      obtain ⟨ta, h1, h⟩ := Option.bind_eq_some_iff.mp h
      obtain ⟨tb, h2, rfl⟩ := Option.map_eq_some_iff.mp h
      obtain ⟨g1, g2⟩ := glb_ok O c2
      obtain ⟨g3, g4⟩ := glb_ok O c3
      unfold tLRg2
      exact pe_listRg (O.calm c4) g1 g2 (prg_2 g3 g4 (hf _ _ h1) (hf _ _ h2) (by rw [star_cons c0]) (star_cons c1) (by rw [star_cons c1]; rfl)) rfl
    · cases h
  · split at h
    · rename_i o m ap e e2 p c
      obtain ⟨rfl, c1, c2, c3, c4⟩ := c
      obtain ⟨to, h1, h⟩ := Option.bind_eq_some_iff.mp h
      obtain ⟨ta, h2, h⟩ := Option.bind_eq_some_iff.mp h
      obtain ⟨tb, h3, rfl⟩ := Option.map_eq_some_iff.mp h
      refine pe_dsetd (hf _ _ h1) (hf _ _ h2) (hf _ _ h3) ⟨base_no c1, few_ok (by simp [c3, c4]) (show 2 < 20 by decide), c2, ?_⟩
      rw [star_cons c3, star_cons c4]
      rfl
    · cases h
  · obtain ⟨to, h1, rfl⟩ := Option.map_eq_some_iff.mp h
    unfold tRev
    rw [← O.K]
    exact pe_revL (hf _ _ h1)
  · cases h
theorem sound (n : Nat) : (∀ (S : SC) (E : L2.St → XK) (X : Cx), OkE g S E X → ∀ e t, cE g n S E e = some t → PE X e t) ∧ (∀ (S : SC) (E : L2.St → XK) (X : Cx), OkE g S E X → ∀ e t, cT g n S E e = some t → PT X e t) := by
  induction n with
  | zero => exact ⟨fun S E X O e t h => (nomatch h), fun S E X O e t h => (nomatch h)⟩
  | succ n ih =>
    obtain ⟨ihE, ihT⟩ := ih
    refine ⟨fun S E X O e t h => ?_, fun S E X O e t h => ?_⟩
    · have f := fun e t h => ihE S E X O e t h
      have hu : X.A.units + 1 < cLine := by have := O.un; omega
      cases e with
      | Name x p => exact cName_ok O h
      | Constant c j p => exact cConst_ok h
      | BinOp a op b p =>
        obtain ⟨r, h1, h2⟩ := Option.bind_eq_some_iff.mp h
        obtain ⟨ta, h3, h4⟩ := Option.bind_eq_some_iff.mp h2
        obtain ⟨tb, h5, rfl⟩ := Option.map_eq_some_iff.mp h4
        rw [← O.K] at h1
        exact pe_op (rBin_ok h1) (f _ _ h3) (f _ _ h5)
      | UnaryOp op a p =>
        cases op <;> first | cases h | skip
        · obtain ⟨ta, h3, rfl⟩ := Option.map_eq_some_iff.mp h
          exact pe_notU (f _ _ h3)
        · obtain ⟨ta, h3, rfl⟩ := Option.map_eq_some_iff.mp h
          exact pe_un un_negU (f _ _ h3)
      | BoolOp op vs p =>
        cases vs with
        | nil => cases h
        | cons a r =>
          cases r with
          | nil => exact pe_one (f _ _ h)
          | cons b r =>
            obtain ⟨ta, h3, h4⟩ := Option.bind_eq_some_iff.mp h
            obtain ⟨tb, h5, rfl⟩ := Option.map_eq_some_iff.mp h4
            cases op with
            | And => exact pe_andU (f _ _ h3) (f _ _ h5)
            | Or => exact pe_orU (f _ _ h3) (f _ _ h5)
      | Compare a ops bs p =>
        rcases ops with _ | ⟨op, _ | ⟨op', _ | ⟨_, _⟩⟩⟩ <;> rcases bs with _ | ⟨b, _ | ⟨c, _ | ⟨_, _⟩⟩⟩ <;> first | cases h | skip
        · have h' : (if noSet b then (rCmp g.K op).bind fun r => (cE g n S E a).bind fun ta => (cE g n S E b).map fun tb => tOp r ta tb else none) = some t := h
          by_cases hs : noSet b = true
          · rw [if_pos hs] at h'
            obtain ⟨r, h1, h2⟩ := Option.bind_eq_some_iff.mp h'
            obtain ⟨ta, h3, h4⟩ := Option.bind_eq_some_iff.mp h2
            obtain ⟨tb, h5, rfl⟩ := Option.map_eq_some_iff.mp h4
            exact isN O h1 (f _ _ h3) (f _ _ h5) hs
          · rw [if_neg hs] at h'
            cases h'
        · have h' : (if noSet c then (rCmp g.K op).bind fun r => (rCmp g.K op').bind fun r' => (cE g n S E a).bind fun ta => (cE g n S E b).bind fun tb => (cE g n S E c).map fun tc => tChU r r' ta tb tc else none) = some t := h
          by_cases hs : noSet c = true
          · rw [if_pos hs] at h'
            obtain ⟨r, h1, h2⟩ := Option.bind_eq_some_iff.mp h'
            obtain ⟨r', h1', h2⟩ := Option.bind_eq_some_iff.mp h2
            obtain ⟨ta, h3, h4⟩ := Option.bind_eq_some_iff.mp h2
            obtain ⟨tb, h5, h6⟩ := Option.bind_eq_some_iff.mp h4
            obtain ⟨tc, h7, rfl⟩ := Option.map_eq_some_iff.mp h6
            rw [← O.K] at h1 h1'
            exact pe_chU (rCmp_ok O.un h1) (rCmp_ok O.un h1') (f _ _ h3) (f _ _ h5) (f _ _ h7) (mark_no hs)
          · rw [if_neg hs] at h'
            cases h'
      | Call fn es kw p =>
        replace h := orO_ok (show orO (spC g S (cE g n S E) (.Call fn es kw p)) _ = some t from h)
        rcases h with h | h
        · exact spC_ok O f h
        cases kw with
        | cons _ _ => cases fn <;> cases h
        | nil =>
          cases fn <;> first | cases h | skip
          · rename_i o m ap
            have h' : (if noSup o && decide (es.length < 20) then (cE g n S E o).bind fun to => (cA (cE g n S E) es).bind fun ta => cCallM g S.cm E m es.isEmpty (ap.endLine == p.line) to ta else none) = some t := h
            by_cases hs : (noSup o && decide (es.length < 20)) = true
            · rw [if_pos hs] at h'
              obtain ⟨to, h1, h2⟩ := Option.bind_eq_some_iff.mp h'
              obtain ⟨ta, h3, h4⟩ := Option.bind_eq_some_iff.mp h2
              obtain ⟨s1, s2⟩ := Bool.and_eq_true_iff.mp hs
              obtain ⟨q1, q2, q3⟩ := cA_ok f h3
              exact cCallM_ok O (f _ _ h1) q2 q3 q1 s1 (of_decide_eq_true s2) h4
            · rw [if_neg hs] at h'
              cases h'
          · rename_i x xp
            have h' : (match sumV x es with
              | some o => if glb g S.sc "sum" && S.cm then (cE g n S E o).map tSumVals else none
              | none => (cA (cE g n S E) es).bind fun ta => cCallN g S E x es.isEmpty ta) = some t := h
            split at h'
            · rename_i o hv
              obtain ⟨rfl, ap, mp, rfl, s1, s2⟩ := sumV_ok hv
              by_cases hg : (glb g S.sc "sum" && S.cm) = true
              · rw [if_pos hg] at h'
                obtain ⟨hg, cm⟩ := Bool.and_eq_true_iff.mp hg
                obtain ⟨to, h1, rfl⟩ := Option.map_eq_some_iff.mp h'
                obtain ⟨g1, g2⟩ := glb_ok O hg
                exact pe_sumVals (O.calm cm) g1 g2 (f _ _ h1) (base_no s1) s2
              · rw [if_neg hg] at h'
                cases h'
            · obtain ⟨ta, h3, h4⟩ := Option.bind_eq_some_iff.mp h'
              obtain ⟨q1, q2, q3⟩ := cA_ok f h3
              exact cCallN_ok O q2 q3 q1 h4
      | Attribute o a p =>
        have h' : (if noSup o then (cE g n S E o).map fun to => (match S.xv with
          | none => tFld g.K to a
          | some (b, c, d) => fun σ H Q => tFld g.K to a σ H Q ∨ tFldX g.K b c d to a σ H Q) else none) = some t := h
        by_cases hs : noSup o = true
        · rw [if_pos hs] at h'
          obtain ⟨to, h1, rfl⟩ := Option.map_eq_some_iff.mp h'
          rw [← O.K]
          split
          · exact pe_fld (f _ _ h1) (base_no hs)
          · rename_i b c d hx
            exact peOr (pe_fld (f _ _ h1) (base_no hs)) (pe_fldX (O.xv b c d hx) (f _ _ h1) (base_no hs))
        · rw [if_neg hs] at h'
          cases h'
      | Subscript a b p =>
        replace h := orO_ok (show orO (spC g S (cE g n S E) (.Subscript a b p)) _ = some t from h)
        rcases h with h | h
        · exact spC_ok O f h
        have other : noSlice b = true → ((cE g n S E a).bind fun ta => (cE g n S E b).map fun tb => tOp (rIxU g.K) ta tb) = some t → PE X (.Subscript a b p) t := fun hb h => by
          obtain ⟨ta, h3, h4⟩ := Option.bind_eq_some_iff.mp h
          obtain ⟨tb, h5, rfl⟩ := Option.map_eq_some_iff.mp h4
          rw [← O.K]
          exact pe_ix (ix_u hu) (f _ _ h3) (f _ _ h5) (ix_no hb)
        cases b <;> first | exact other rfl h | skip
        rename_i lo hi st sp
        cases st with
        | some _ => cases h
        | none =>
          obtain ⟨ta, h3, h4⟩ := Option.bind_eq_some_iff.mp h
          obtain ⟨tl, h5, h6⟩ := Option.bind_eq_some_iff.mp h4
          obtain ⟨th, h7, rfl⟩ := Option.map_eq_some_iff.mp h6
          rw [← O.K]
          exact pe_slice sl_u (f _ _ h3) (cO_ok f h5) (cO_ok f h7)
      | List es p =>
        obtain ⟨ta, h3, rfl⟩ := Option.map_eq_some_iff.mp h
        exact pe_lst (cA_ok f h3).1
      | Tuple es k p =>
        obtain ⟨ta, h3, rfl⟩ := Option.map_eq_some_iff.mp h
        exact pe_tup (cA_ok f h3).1
      | Dict ks vs p =>
        cases ks with
        | cons k ks =>
          cases vs with
          | nil => cases h
          | cons v vs =>
            have h' : (if ((k :: ks).all (·.isSome) && decide ((k :: ks).length = (v :: vs).length) && decide ((k :: ks).length ≤ 15)) = true then (cP (cE g n S E) (k :: ks) (v :: vs)).map tDisp else none) = some t := h
            by_cases hs : ((k :: ks).all (·.isSome) && decide ((k :: ks).length = (v :: vs).length) && decide ((k :: ks).length ≤ 15)) = true
            · rw [if_pos hs] at h'
              obtain ⟨tr, h1, rfl⟩ := Option.map_eq_some_iff.mp h'
              obtain ⟨hs, s3⟩ := Bool.and_eq_true_iff.mp hs
              obtain ⟨s1, s2⟩ := Bool.and_eq_true_iff.mp hs
              exact pe_disp (cP_ok f h1) s1 (of_decide_eq_true s2) (fun z => by cases z) (of_decide_eq_true s3)
            · rw [if_neg hs] at h'
              cases h'
        | nil =>
          cases vs with
          | cons _ _ => cases h
          | nil =>
            cases h
            exact peOr pe_dnewK pe_dnewT
      | IfExp c a b p =>
        obtain ⟨tc, h1, h2⟩ := Option.bind_eq_some_iff.mp h
        obtain ⟨ta, h3, h4⟩ := Option.bind_eq_some_iff.mp h2
        obtain ⟨tb, h5, rfl⟩ := Option.map_eq_some_iff.mp h4
        exact pe_ifU (ihT S E X O _ _ h1) (f _ _ h3) (f _ _ h5)
      | ListComp elt gens scope p =>
        rcases gens with _ | ⟨⟨tg, iter, ifs, k⟩, _ | ⟨_, _⟩⟩ <;> first | cases h | skip
        have h' : (if (blkC g.N S.sc scope (ownOf g.N scope) && noSet iter && (k == 0) && S.cm) = true then
          (cI g S (cE g n S E) tg iter).bind fun wi => (cTg g (S.blk scope) tg).bind fun tt => (cF (cT g n (S.blk scope) EZ) ifs).bind fun tf =>
            (cE g n (S.blk scope) EZ elt).map fun te => lcE wi tt tf te ((ownOf g.N scope).map (·.2))
          else none) = some t := h
        by_cases hs : (blkC g.N S.sc scope (ownOf g.N scope) && noSet iter && (k == 0) && S.cm) = true
        · rw [if_pos hs] at h'
          obtain ⟨wi, h1, h2⟩ := Option.bind_eq_some_iff.mp h'
          obtain ⟨tt, h3, h4⟩ := Option.bind_eq_some_iff.mp h2
          obtain ⟨tf, h5, h6⟩ := Option.bind_eq_some_iff.mp h4
          obtain ⟨te, h7, rfl⟩ := Option.map_eq_some_iff.mp h6
          obtain ⟨hs, cm⟩ := Bool.and_eq_true_iff.mp hs
          obtain ⟨hs, s3⟩ := Bool.and_eq_true_iff.mp hs
          obtain ⟨s1, s2⟩ := Bool.and_eq_true_iff.mp hs
          have k0 : k = 0 := by simpa using s3
          subst k0
          have bo : BlkOk X.N X.env.scope scope (ownOf g.N scope) := by
            rw [O.N, O.sc]
            exact blkOk_by s1
          refine lcE_ok fun w hw => pe_lc (O.calm cm) O.nd (cI_ok O f h1 w hw) bo (fun s H C cl fp => cTg_ok (O.blk cm s H scope bo.kind C cl fp) h3) (fun s H C cl fp => ?_) (fun s H C cl fp => ihE _ _ _ (O.blk cm s H scope bo.kind C cl fp) _ _ h7) (fold_no s2)
          rcases ifs with _ | ⟨c, _ | ⟨_, _⟩⟩
          · cases h5
            exact pts_nil
          · exact pts_one (ihT _ _ _ (O.blk cm s H scope bo.kind C cl fp) _ _ h5)
          · cases h5
        · rw [if_neg hs] at h'
          cases h'
      | _ => cases h
    · have f := fun e t h => ihE S E X O e t h
      have ft := fun e t h => ihT S E X O e t h
      have tru : ∀ (e : Expr), noBool e = true → (cE g n S E e).map (tTru g.K) = some t → PT X e t := fun e hn h => by
        obtain ⟨te, h3, rfl⟩ := Option.map_eq_some_iff.mp h
        rw [← O.K]
        exact pt_tru (f _ _ h3) (true_no hn)
      cases e with
      | UnaryOp op a p =>
        cases op <;> first | cases h | skip
        obtain ⟨ta, h3, rfl⟩ := Option.map_eq_some_iff.mp h
        exact pt_not (ft _ _ h3)
      | BoolOp op vs p =>
        cases vs with
        | nil => cases h
        | cons a r =>
          cases r with
          | nil =>
            cases op with
            | And => exact (pw_and1 (ft _ _ h)).pt
            | Or => exact (pw_or1 (ft _ _ h)).pt
          | cons b r =>
            obtain ⟨ta, h3, h4⟩ := Option.bind_eq_some_iff.mp h
            obtain ⟨tb, h5, rfl⟩ := Option.map_eq_some_iff.mp h4
            cases op with
            | And => exact (pw_andU (ft _ _ h3) (pw_of (ft _ _ h5))).pt
            | Or => exact (pw_orU (ft _ _ h3) (pw_of (ft _ _ h5))).pt
      | Compare a ops bs p =>
        rcases ops with _ | ⟨op, _ | ⟨op', _ | ⟨_, _⟩⟩⟩ <;> rcases bs with _ | ⟨b, _ | ⟨c, _ | ⟨_, _⟩⟩⟩ <;> first | cases h | skip
        · have h' : (if noSet b then (rCmp g.K op).bind fun r => (cE g n S E a).bind fun ta => (cE g n S E b).map fun tb => tBo (tOp r ta tb) else none) = some t := h
          by_cases hs : noSet b = true
          · rw [if_pos hs] at h'
            obtain ⟨r, h1, h2⟩ := Option.bind_eq_some_iff.mp h'
            obtain ⟨ta, h3, h4⟩ := Option.bind_eq_some_iff.mp h2
            obtain ⟨tb, h5, rfl⟩ := Option.map_eq_some_iff.mp h4
            rw [← O.K] at h1
            exact pt_cmpU (rCmp_ok O.un h1) (f _ _ h3) (f _ _ h5) (mark_no hs)
          · rw [if_neg hs] at h'
            cases h'
        · have h' : (if noSet c then (rCmp g.K op).bind fun r => (rCmp g.K op').bind fun r' => (cE g n S E a).bind fun ta => (cE g n S E b).bind fun tb => (cE g n S E c).map fun tc => tBo (tChU r r' ta tb tc) else none) = some t := h
          by_cases hs : noSet c = true
          · rw [if_pos hs] at h'
            obtain ⟨r, h1, h2⟩ := Option.bind_eq_some_iff.mp h'
            obtain ⟨r', h1', h2⟩ := Option.bind_eq_some_iff.mp h2
            obtain ⟨ta, h3, h4⟩ := Option.bind_eq_some_iff.mp h2
            obtain ⟨tb, h5, h6⟩ := Option.bind_eq_some_iff.mp h4
            obtain ⟨tc, h7, rfl⟩ := Option.map_eq_some_iff.mp h6
            rw [← O.K] at h1 h1'
            exact pt_chU (rCmp_ok O.un h1) (rCmp_ok O.un h1') (f _ _ h3) (f _ _ h5) (f _ _ h7) (mark_no hs)
          · rw [if_neg hs] at h'
            cases h'
      | IfExp c a b p => cases h
      | _ => exact tru _ rfl h
end
end Rf
namespace Rf
open PySem L2 PySem.Spec PyProof.Rows

/-! ### o[i] by values, for o[i] op= e -/
theorem get_list {X : Cx} : PGet X (rIxL X.K) := by
  intro pins s σ H o i ov iv Q I ro ri h
  obtain ⟨p, xs, k, z, rfl, rfl, hq, he, q⟩ := h
  cases ro
  obtain ⟨t, rfl⟩ := ri
  obtain ⟨its, r, pl, hz⟩ := I.list hq
  obtain ⟨j, h1, h2, h3, h4, h5⟩ := atI_get he
  obtain ⟨w, ew, rw'⟩ := r.get h2
  have hl := r.length
  have hn := line63
  have fin : EP X pins σ Q w s := ⟨z, H, I, rw', q⟩
  by_cases h0 : 0 ≤ k
  · have hj : k.toNat = j := by
      rw [seqIndex_of h0 h5] at h1
      exact Option.some.inj h1
    exact wpAny_getItem_list pl.isList h0 (by omega) (by rw [hj]; simpa using ew) fin
  · have hj : (k + (its.toArray.size : Int)).toNat = j := by
      rw [seqIndex_neg (by omega) h4] at h1
      rw [List.size_toArray, ← hl]
      exact Option.some.inj h1
    exact wpAny_getItem_list_neg pl.isList (by omega) (by rw [List.size_toArray] <;> omega) (by omega) (by rw [hj]; simpa using ew) fin
@[irreducible] def rGetU (K : PySem.W.Frag) : V → V → Hp → VK → Prop := fun x y H Q => rIxL K x y H Q ∨ rIxD x y H Q
theorem get_u {X : Cx} (hu : X.A.units + 1 < cLine) : PGet X (rGetU X.K) := by
  intro pins s σ H o i ov iv Q I ro ri h
  unfold rGetU at h
  rcases h with h | ⟨a, w', rfl, g, q⟩
  · exact get_list pins s σ H o i ov iv Q I ro ri h
  · cases ro
    exact d_getItem hu I g ri fun w2 s3 I3 rw' => ⟨w', H, I3, rw', q⟩

def swB (sc : Scope) (y : Str) (py : Pos) : Expr → Bool
  | .ListComp _ _ s p => (sc.names.lookup y == some .local) && (py.line == p.line) && !(s.names.any fun (n, k) => n == y && (k == .local || k == .cell))
  | _ => false
def noDS : Expr → Bool
  | .SetComp .. => false
  | .DictComp .. => false
  | _ => true
theorem swB_ok {e : Expr} {y : Str} {py : Pos} {l : Nat} {env : Env} (hk : env.scope.kind = .function) (h : noDS e = true) : swapsWith e (some (.Name y py)) l env = pure (swB env.scope y py e) := by
  have hb : env.blockKind = .function := by unfold Env.blockKind; rw [hk]; rfl
  cases e <;> first | rfl | cases h | skip
  unfold swapsWith
  simp only [hb]
  rfl
theorem sw_other {e t : Expr} {l : Nat} {env : Env} (h : noDS e = true) (ht : ∀ x p, t ≠ .Name x p) : swapsWith e (some t) l env = pure false := by
  cases e <;> first | rfl | cases h | skip
  cases t <;> first | rfl | exact absurd rfl (ht _ _)

/-! ### the compiler: statements -/
/-- a way that is never gone -/
def uNever : TS := fun _ _ _ => False
theorem ps_neverU {X : Cx} {st : Stmt} : PS X st uNever := ⟨fun _ _ _ _ _ _ h => h.elim⟩
/-- raise C(e, ..) -/
def uRaise (t : L2.St → Hp → XK → Prop) (E : L2.St → XK) : TS := fun _ σ H => t σ H (E σ)
def cRaise (g : GT) (S : SC) (E : L2.St → XK) (f : Expr → Option TE) : Option Expr → Option Expr → Option TS
  | some (.Call (.Name x _) (e :: es) [] _), none => if badName x || !S.cm then some uNever else (match nameK S.sc x, g.G.lookup x with
    | some false, some (.exc C sp dvs) => (cA f (e :: es)).map fun ta => uRaise (tMkO C sp dvs ta) E
    | _, _ => some uNever)
  | _, _ => some uNever
/-- C.__init__(self, ..) of a base class of exceptions -/
def cutI (g : GT) (sc : Scope) : Expr → Option (List Expr)
  | .Call (.Attribute (.Name b p1) m ap) (e :: es) [] p => if m = "__init__" ∧ badName b = false ∧ (ap.endLine == p.line) = true ∧ (e :: es).length < 20 ∧ noSup (.Name b p1) = true then (match nameK sc b, g.G.lookup b with
    | some false, some (.bex _) => some (e :: es)
    | _, _ => none) else none
  | _ => none
def isBex (g : GT) : Bool := g.G.any fun p => match p.2 with
  | .bex _ => true
  | _ => false
def parB (sc : Scope) (x y a : Str) (px py : Pos) : Bool := (sc.names.lookup x == some .local) && (sc.names.lookup y == some .local) && (py.line == px.line) && decide (x ≠ y) && decide (a ≠ "__debug__")
theorem par_ok {env : Env} {x y a b : Str} {px py pa pb pt p2 : Pos} {kt k2} (hk : env.scope.kind = .function) (h : parB env.scope x y a px py = true) :
    swappedStores [.Tuple [.Name x px, .Name y py] kt pt] (.Tuple [.Name a pa, .Name b pb] k2 p2) env = pure (some [x, y]) := by
  unfold parB at h
  simp only [Bool.and_eq_true, decide_eq_true_eq, beq_iff_eq] at h
  obtain ⟨⟨⟨⟨h1, h2⟩, h3⟩, h4⟩, h5⟩ := h
  have hb : env.blockKind = .function := by unfold Env.blockKind; rw [hk]; rfl
  have k1 : env.kindOf x = some .local := h1
  have k2' : env.kindOf y = some .local := h2
  unfold swappedStores
  simp [hb, k1, k2', h3, foldedForSure, constantsAlone, Expr.pos, List.eraseDups_cons, Ne.symm h4]
  exact fun z => absurd z h5
def cPar (g : GT) (S : SC) (f : Expr → Option TE) : List Expr → List Expr → Option TS
  | [.Name x px, .Name y py], [.Name a pa, .Name b pb] => if S.cm && parB S.sc x y a px py then (ixO g.N x).bind fun i => (ixO g.N y).bind fun j => if i = j then none else (cA f [.Name a pa, .Name b pb]).map fun ta => tPar i j ta else none
  | _, _ => none
structure OkS (g : GT) (S : SC) (E : L2.St → XK) (X : Cx) : Prop extends OkE g S E X where
  po : PassesOwn (model X.prog X.w) X.A X.env X.xe
  tk : Takes X fun c d σ H => E σ c d H
  st : X.stack = X.env :: X.outer ∧ X.env.frame = some X.env.locals
def cSt (g : GT) (S : SC) (E : L2.St → XK) (n : Nat) : Stmt → Option TS
  | .Return r _ => (match r with
    | none => some tRetN
    | some e => (cE g n S E e).map tRet)
  | .Expr e _ => if noComp e then (match cutI g S.sc e with
    | some es => (cA (cE g n S E) es).map fun ta => tDrop (tVeI g.K ta)
    | none => (cE g n S E e).map tDrop) else none
  | .Pass _ => some tNext
  | .Raise a b _ => cRaise g S E (cE g n S E) a b
  | .Break _ => some tBreak
  | .Continue _ => some tCont
  | .Assign ts e pos => if noDS e then (match ts with
    | [.Name y py] => if S.ow y then (ixO g.N y).bind fun i => (match swB S.sc y py e, e with
      | true, .ListComp elt [⟨tg, iter, ifs, k⟩] scope _ =>
        (match n with
        | 0 => none
        | n + 1 => if blkC g.N S.sc scope (ownOf g.N scope) && noSet iter && (k == 0) && S.cm then
          (cI g S (cE g n S E) tg iter).bind fun wi => (cTg g (S.blk scope) tg).bind fun tt => (cF (cT g n (S.blk scope) EZ) ifs).bind fun tf =>
            (cE g n (S.blk scope) EZ elt).map fun te => lcS wi tt tf te ((ownOf g.N scope).map (·.2)) i
          else none)
      | true, _ => none
      | false, e => (cE g n S E e).map fun te => tAsg te (gName i)) else none
    | [.Tuple es k p] => (match e with
      | .Tuple es2 _ _ => cPar g S (cE g n S E) es es2
      | e => (cTg g S (.Tuple es k p)).bind fun t => (cE g n S E e).map fun te => tAsg te t)
    | [.Subscript o i _] => if noSlice i then (cE g n S E o).bind fun to => (cE g n S E i).bind fun ti => (cE g n S E e).map fun te => tAsg te (gSub to ti rSetU) else none
    | [.Attribute o f _] => (cE g n S E o).bind fun to => (cE g n S E e).map fun te => if isBex g then tOst g.K f to te else sFld g.K to te f
    | _ => none) else none
  | .AugAssign tg op e _ => (match tg with
    | .Name y _ => if S.ow y then (ixO g.N y).bind fun i => (rAug g.K op).bind fun r => (cE g n S E e).map fun te => tAug i te r else none
    | .Subscript o i _ => if noSlice i then (rAug g.K op).bind fun r => (cE g n S E o).bind fun to => (cE g n S E i).bind fun ti => (cE g n S E e).map fun te => tAugS to ti te (rGetU g.K) r rSetU else none
    | _ => none)
  | _ => none
/-- the ways joined: R is what holds behind the first -/
def tCut (t u : TS) : TS := fun D σ H => ∃ R : L2.St → Hp → Prop, t { D with nx := R } σ H ∧ ∀ σ' H', R σ' H' → u D σ' H'
theorem pss_cut {X : Cx} {st : Stmt} {rest : List Stmt} {t u : TS} (h1 : PS X st t) (h2 : PSs X rest u) : PSs X (st :: rest) (tCut t u) := by
  refine ⟨fun pins s σ H D I h => ?_⟩
  obtain ⟨R, h, hR⟩ := h
  refine wpAny_execs_cons (thn (h1.run pins s σ H { D with nx := R } I h) fun f s1 q => ?_)
  cases f with
  | next =>
    obtain ⟨σ', H', I', q⟩ := q
    exact h2.run pins s1 σ' H' D I' (hR _ _ q)
  | ret v => exact q
  | brk => exact q
  | cont => exact q
def endsB : List Stmt → Bool
  | [] => false
  | [.Return ..] => true
  | [.Raise ..] => true
  | [.Break ..] => true
  | [.Continue ..] => true
  | _ :: r => endsB r
def cutB : Stmt → Bool
  | .If _ a b _ => !(endsB a && b.isEmpty)
  | _ => false
/-- the class that an except clause names -/
def hCls (g : GT) (sc : Scope) (x : Str) : Option Value := if badName x then none else match nameK sc x, g.G.lookup x with
  | some false, some (.con (.ref C)) => some (.ref C)
  | _, _ => none
/-- try: tb, except c as i: ts -/
def uTry (K : PySem.W.Frag) (c : Value) (i : Nat) (tb : WX → TS) (ts : Addr → Value → Option Addr → TS) (E : L2.St → XK) : TS := fun D σ H => tb (wAs K c i ts (fun c d σ H => E σ c d H) D) D σ H
abbrev eW (W : WX) : L2.St → XK := WE W
def goTry (g : GT) (S : SC) (E : L2.St → XK) (cb : SC → (L2.St → XK) → List Stmt → Option TS) (body : List Stmt) : List ExceptHandler → List Stmt → List Stmt → Option TS
  | [.ExceptHandler (some (.Name x _)) (some n) (b₀ :: suite) _], [], [] => if S.cm && S.xv.isNone && (S.sc.names.lookup n == some .local) then (hCls g S.sc x).bind fun c => (ixO g.N n).map fun i =>
      uTry g.K c i (fun W => (cb S (eW W) body).getD uNever) (fun a c d => (cb { S with cm := false, xv := some (a, c, d) } EZ (b₀ :: suite)).getD uNever) E else none
  | _, _, _ => none
mutual
def cS (g : GT) : Nat → SC → (L2.St → XK) → Stmt → Option TS
  | 0, _, _, _ => none
  | n + 1, S, E, st => match st with
    | .If c a b _ => (cT g n S E c).bind fun tc => (cSs g n S E a).bind fun ta => (cSs g n S E b).map fun tb => uIf tc ta tb
    | .While c b oe _ => (match oe with
      | [] => (cT g n S E c).bind fun tc => (cSs g n S E b).map fun tb => tWhile tc tb
      | _ => none)
    | .For tg it b oe _ => (match oe with
      | [] => if noSet it && S.cm then (cI g S (cE g n S E) tg it).bind fun wi => (cTg g S tg).bind fun t => (cSs g n S E b).map fun tb => forS wi t tb else none
      | _ => none)
    | .Try b hds oe fb _ => goTry g S E (cSs g n) b hds oe fb
    | st => cSt g S E n st
def cSs (g : GT) : Nat → SC → (L2.St → XK) → List Stmt → Option TS
  | 0, _, _, _ => none
  | n + 1, S, E, sts => match sts with
    | [] => some tNext
    | [a] => cS g n S E a
    | a :: b :: r => (cS g n S E a).bind fun ta => (cSs g n S E (b :: r)).map fun tb => if cutB a then tCut ta tb else tSeq ta tb
end
section
variable {g : GT} {S : SC} {E : L2.St → XK} {X : Cx}
theorem cSt_ok (O : OkS g S E X) (n : Nat) (st : Stmt) {t : TS} (h : cSt g S E n st = some t) : PS X st t := by
  have f : ∀ e t, cE g n S E e = some t → PE X e t := fun e t h => (sound n).1 S E X O.toOkE e t h
  have hu : X.A.units + 1 < cLine := by have := O.un; omega
  cases st <;> first | cases h | skip
  case Return r p =>
    cases r with
    | none => cases h; exact ps_retN
    | some e =>
      obtain ⟨te, h1, rfl⟩ := Option.map_eq_some_iff.mp h
      exact ps_ret (f _ _ h1)
  case Assign ts e pos =>
    by_cases hd : noDS e = true
    case neg =>
      have h' : (if noDS e then _ else none) = some t := h
      rw [if_neg hd] at h'
      cases h'
    have h1 := h
    unfold cSt at h1
    dsimp only at h1
    rw [if_pos hd] at h1
    split at h1
    · rename_i y py
      by_cases hw : S.ow y = true
      case neg =>
        rw [if_neg hw] at h1
        cases h1
      rw [if_pos hw] at h1
      obtain ⟨i, hi, h2⟩ := Option.bind_eq_some_iff.mp h1
      have hN := ixO_ok hi
      rw [← O.N] at hN
      obtain ⟨l1, l2⟩ := O.ow y hw
      split at h2
      · rename_i elt tg iter ifs k scope sp hsw
        cases n with
        | zero => cases h2
        | succ n =>
          have h' : (if (blkC g.N S.sc scope (ownOf g.N scope) && noSet iter && (k == 0) && S.cm) = true then
            (cI g S (cE g n S E) tg iter).bind fun wi => (cTg g (S.blk scope) tg).bind fun tt => (cF (cT g n (S.blk scope) EZ) ifs).bind fun tf =>
              (cE g n (S.blk scope) EZ elt).map fun te => lcS wi tt tf te ((ownOf g.N scope).map (·.2)) i
            else none) = some t := h2
          by_cases hs : (blkC g.N S.sc scope (ownOf g.N scope) && noSet iter && (k == 0) && S.cm) = true
          · rw [if_pos hs] at h'
            clear h1 h
            obtain ⟨wi, h1, h2⟩ := Option.bind_eq_some_iff.mp h'
            obtain ⟨tt, h3, h4⟩ := Option.bind_eq_some_iff.mp h2
            obtain ⟨tf, h5, h6⟩ := Option.bind_eq_some_iff.mp h4
            obtain ⟨te, h7, rfl⟩ := Option.map_eq_some_iff.mp h6
            obtain ⟨hs, cm⟩ := Bool.and_eq_true_iff.mp hs
            obtain ⟨hs, s3⟩ := Bool.and_eq_true_iff.mp hs
            obtain ⟨s1, s2⟩ := Bool.and_eq_true_iff.mp hs
            have k0 : k = 0 := by simpa using s3
            subst k0
            have bo : BlkOk X.N X.env.scope scope (ownOf g.N scope) := by
              rw [O.N, O.sc]
              exact blkOk_by s1
            have hl : X.env.scope.names.lookup y = some .local := by
              have z := hsw
              unfold swB at z
              rw [O.sc]
              obtain ⟨z, _⟩ := Bool.and_eq_true_iff.mp z
              obtain ⟨z, _⟩ := Bool.and_eq_true_iff.mp z
              exact of_decide_eq_true (by simpa using z)
            have f := fun e t h => (sound n).1 S E X O.toOkE e t h
            refine lcS_ok fun w hw => ps_setLc (O.calm cm) O.nd hN hl (by rw [swB_ok O.kd hd, O.sc, hsw]) (cI_ok O.toOkE f h1 w hw) bo (fun s H C cl fp => cTg_ok (O.blk cm s H scope bo.kind C cl fp) h3) (fun s H C cl fp => ?_)
              (fun s H C cl fp => (sound n).1 _ _ _ (O.blk cm s H scope bo.kind C cl fp) _ _ h7) (fold_no s2)
            rcases ifs with _ | ⟨c, _ | ⟨_, _⟩⟩
            · cases h5
              exact pts_nil
            · exact pts_one ((sound n).2 _ _ _ (O.blk cm s H scope bo.kind C cl fp) _ _ h5)
            · cases h5
          · rw [if_neg hs] at h'
            cases h'
      · cases h2
      · rename_i hsw
        obtain ⟨te, h3, rfl⟩ := Option.map_eq_some_iff.mp h2
        exact ps_set O.nd hN l1 (f _ _ h3) (by rw [swB_ok O.kd hd, O.sc, hsw]) l2
    · rename_i es k p
      have go : (∀ a b c, e ≠ .Tuple a b c) → ((cTg g S (.Tuple es k p)).bind fun t => (cE g n S E e).map fun te => tAsg te t) = some t → PS X (.Assign [.Tuple es k p] e pos) t := fun ne h => by
        obtain ⟨tt, h3, h4⟩ := Option.bind_eq_some_iff.mp h
        obtain ⟨te, h5, rfl⟩ := Option.map_eq_some_iff.mp h4
        refine ps_asg (f _ _ h5) (cTg_ok O.toOkE h3) (show swapsWith e (some (.Tuple es k p)) pos.line X.env = pure false from sw_other hd (fun x p z => by cases z)) ?_ rfl
        cases e <;> first | rfl | exact absurd rfl (ne _ _ _)
      split at h1
      · rename_i es2 k2 p2
        unfold cPar at h1
        split at h1
        · rename_i x px y py a pa b pb
          by_cases hs : (S.cm && parB S.sc x y a px py) = true
          case neg =>
            rw [if_neg hs] at h1
            cases h1
          rw [if_pos hs] at h1
          obtain ⟨cm, pb'⟩ := Bool.and_eq_true_iff.mp hs
          obtain ⟨i, h3, h4⟩ := Option.bind_eq_some_iff.mp h1
          obtain ⟨j, h5, h6⟩ := Option.bind_eq_some_iff.mp h4
          by_cases hij : i = j
          · rw [if_pos hij] at h6
            cases h6
          rw [if_neg hij] at h6
          obtain ⟨ta, h7, rfl⟩ := Option.map_eq_some_iff.mp h6
          have hN := ixO_ok h3
          have hN' := ixO_ok h5
          rw [← O.N] at hN hN'
          unfold parB at pb'
          have pp := pb'
          simp only [Bool.and_eq_true, decide_eq_true_eq, beq_iff_eq] at pp
          have pq : parB X.env.scope x y a px py = true := by rw [O.sc]; exact pb'
          exact ps_par (O.calm cm) O.nd hN hN' hij (by rw [O.sc]; exact pp.1.1.1.1) (by rw [O.sc]; exact pp.1.1.1.2) (cA_ok f h7).1 (par_ok O.kd pq)
        · cases h1
      · rename_i _ ne
        exact go (fun a b c z => ne a b c z) h1
    · rename_i o i p
      by_cases hs : noSlice i = true
      case neg =>
        rw [if_neg hs] at h1
        cases h1
      rw [if_pos hs] at h1
      obtain ⟨to, h3, h4⟩ := Option.bind_eq_some_iff.mp h1
      obtain ⟨ti, h5, h6⟩ := Option.bind_eq_some_iff.mp h4
      obtain ⟨te, h7, rfl⟩ := Option.map_eq_some_iff.mp h6
      refine ps_asg (f _ _ h7) (pg_sub (f _ _ h3) (f _ _ h5) (set_u hu) (fun v => ?_)) (show swapsWith e (some (.Subscript o i p)) pos.line X.env = pure false from sw_other hd (fun x p z => by cases z)) rfl rfl
      cases i <;> first | rfl | cases hs
    · rename_i o a p
      obtain ⟨to, h3, h4⟩ := Option.bind_eq_some_iff.mp h1
      obtain ⟨te, h5, rfl⟩ := Option.map_eq_some_iff.mp h4
      rw [← O.K]
      split
      · exact ps_ost (f _ _ h3) (f _ _ h5) (sw_other hd (fun x p z => nomatch z))
      · exact ps_fld (f _ _ h3) (f _ _ h5) (sw_other hd (fun x p z => nomatch z))
    · cases h1
  case AugAssign tg op e pos =>
    cases tg <;> first | cases h | skip
    · rename_i o i p
      have h' : (if noSlice i then (rAug g.K op).bind fun r => (cE g n S E o).bind fun to => (cE g n S E i).bind fun ti => (cE g n S E e).map fun te => tAugS to ti te (rGetU g.K) r rSetU else none) = some t := h
      by_cases hs : noSlice i = true
      case neg =>
        rw [if_neg hs] at h'
        cases h'
      rw [if_pos hs] at h'
      obtain ⟨r, h1, h2⟩ := Option.bind_eq_some_iff.mp h'
      obtain ⟨to, h3, h4⟩ := Option.bind_eq_some_iff.mp h2
      obtain ⟨ti, h5, h6⟩ := Option.bind_eq_some_iff.mp h4
      obtain ⟨te, h7, rfl⟩ := Option.map_eq_some_iff.mp h6
      rw [← O.K] at h1 ⊢
      refine ps_augS (f _ _ h3) (f _ _ h5) (get_u hu) (f _ _ h7) (rAug_ok h1) (set_u hu) (fun ov iv new => ?_)
      cases i <;> first | rfl | cases hs
    · rename_i y p
      have h' : (if S.ow y then (ixO g.N y).bind fun i => (rAug g.K op).bind fun r => (cE g n S E e).map fun te => tAug i te r else none) = some t := h
      by_cases hw : S.ow y = true
      case neg =>
        rw [if_neg hw] at h'
        cases h'
      rw [if_pos hw] at h'
      obtain ⟨i, hi, h2⟩ := Option.bind_eq_some_iff.mp h'
      obtain ⟨r, h3, h4⟩ := Option.bind_eq_some_iff.mp h2
      obtain ⟨te, h5, rfl⟩ := Option.map_eq_some_iff.mp h4
      have hN := ixO_ok hi
      rw [← O.N] at hN
      obtain ⟨l1, l2⟩ := O.ow y hw
      rw [← O.K] at h3
      exact ps_aug O.nd hN l1 (f _ _ h5) (rAug_ok h3) l2
  case Expr e p =>
    have h' : (if noComp e then (match cutI g S.sc e with
      | some es => (cA (cE g n S E) es).map fun ta => tDrop (tVeI g.K ta)
      | none => (cE g n S E e).map tDrop) else none) = some t := h
    by_cases hs : noComp e = true
    · rw [if_pos hs] at h'
      split at h'
      · rename_i es hcu
        obtain ⟨ta, h3, rfl⟩ := Option.map_eq_some_iff.mp h'
        unfold cutI at hcu
        split at hcu
        · rename_i b p1 m ap e es' p'
          split at hcu
          · rename_i hc
            obtain ⟨rfl, hb, hn, hl, hsup⟩ := hc
            split at hcu
            · rename_i C hk hG
              cases hcu
              obtain ⟨hd, _⟩ := badName_ok hb
              obtain ⟨hm, hB⟩ := O.bex _ C hG
              obtain ⟨pa, hst, _⟩ := cA_ok f h3
              obtain ⟨s1, s2⟩ := Bool.and_eq_true_iff.mp (show (noStar e && es'.all noStar) = true from hst)
              rw [← O.K]
              exact ps_expr (pe_cutinit (O.gl hk) hm hd hB pa (meth_form hsup hst hl hn) (star_cons s1) (star_none s2)) (swaps_no hs)
            · cases hcu
          · cases hcu
        · cases hcu
      · obtain ⟨te, h3, rfl⟩ := Option.map_eq_some_iff.mp h'
        exact ps_expr (f _ _ h3) (swaps_no hs)
    · rw [if_neg hs] at h'
      cases h'
  case Pass p => exact ps_pass
  case Raise a b p =>
    have h' : cRaise g S E (cE g n S E) a b = some t := h
    unfold cRaise at h'
    split at h'
    · rename_i x px e es q
      split at h'
      · cases h'
        exact ps_neverU
      · rename_i hb
        obtain ⟨hb, cm⟩ : badName x = false ∧ S.cm = true := by simpa using hb
        obtain ⟨hd, hc⟩ := badName_ok hb
        split at h'
        · rename_i C sp dvs hk hG
          obtain ⟨ta, h3, rfl⟩ := Option.map_eq_some_iff.mp h'
          obtain ⟨f', k, ⟨fd, ps, ds, F, b, d⟩, hr, hm, T, iC, tI⟩ := O.exc cm _ C sp dvs hG
          obtain ⟨pa, hs, _⟩ := cA_ok f h3
          obtain ⟨s1, s2⟩ := Bool.and_eq_true_iff.mp (show (noStar e && es.all noStar) = true from hs)
          exact ps_raise (O.calm cm) O.tk (pmk_oex T iC tI F hr b d (fun pins σ H s e s' I c => passL pins σ H s e s' I c) (O.gl hk) hm pa hd (star_cons s1) (star_none s2))
        · cases h'
          exact ps_neverU
    · cases h'
      exact ps_neverU
  case Break p => exact ps_break
  case Continue p => exact ps_continue
theorem pss_neverU {X : Cx} {sts : List Stmt} : PSs X sts uNever := ⟨fun _ _ _ _ _ _ h => h.elim⟩
theorem hCls_ok (O : OkE g S E X) {x : Str} {c : Value} (h : hCls g S.sc x = some c) : Names X x c := by
  unfold hCls at h
  split at h
  · cases h
  · rename_i hb
    obtain ⟨hd, _⟩ := badName_ok (by simpa using hb)
    split at h
    · rename_i C hk hG
      cases h
      obtain ⟨u, hu, r⟩ := O.con _ _ hG
      cases r
      exact ⟨O.gl hk, hd, .inl hu⟩
    · cases h
theorem OkS.tr (O : OkS g S E X) (W : WX) (pn : List (Addr × Obj)) (xe : Value → Shared → Prop) (tk : Takes (X.tr pn xe) W) (po : PassesOwn (model X.prog X.w) X.A X.env xe) (hx : S.xv = none) : OkS g S (eW W) (X.tr pn xe) where
  K := O.K
  N := O.N
  nd := O.nd
  sc := O.sc
  ow := O.ow
  kd := O.kd
  calm := O.calm
  un := O.un
  ps := fun σ => passAt (X := X.tr pn xe) tk σ
  fn := O.fn
  cls := O.cls
  exc := O.exc
  bex := O.bex
  con := O.con
  bl := O.bl
  me := O.me
  hfn := O.hfn
  xv := fun a c d h => by rw [hx] at h; cases h
  po := po
  tk := tk
  st := O.st
theorem OkS.su (O : OkS g S E X) {a : Addr} {oe : Obj} {c : Value} {d : Option Addr} (pn : List (Addr × Obj)) (hz : Zc c d oe) (hf : ∃ vs, oe.data = .fields vs) : OkS g { S with cm := false, xv := some (a, c, d) } EZ (X.suite a ((a, oe) :: pn)) where
  K := O.K
  N := O.N
  nd := O.nd
  sc := O.sc
  ow := O.ow
  kd := O.kd
  calm := fun z => Bool.noConfusion z
  un := O.un
  ps := fun σ pins H s e s' I c => passL pins σ H s e s' I c
  fn := fun z => Bool.noConfusion z
  cls := fun z => Bool.noConfusion z
  exc := fun z => Bool.noConfusion z
  bex := O.bex
  con := O.con
  bl := O.bl
  me := fun z => Bool.noConfusion z
  hfn := fun x sp h => by
    obtain ⟨f, k, F, r, m, kp⟩ := O.hfn x sp h
    exact ⟨f, k, F, ⟨r.dp, r.un⟩, m, kp⟩
  xv := fun a' c' d' h => by
    cases h
    exact ⟨rfl, oe, List.mem_cons_self, hz, hf⟩
  po := PassesOwn.never
  tk := takes_none5
  st := O.st
theorem soundS (n : Nat) : ∀ (S : SC) (E : L2.St → XK) (X : Cx), (∀ st t, OkS g S E X → cS g n S E st = some t → PS X st t) ∧ (∀ sts t, OkS g S E X → cSs g n S E sts = some t → PSs X sts t) := by
  induction n with
  | zero => exact fun S E X => ⟨fun st t O h => (nomatch h), fun st t O h => (nomatch h)⟩
  | succ n ih =>
    intro S E X
    obtain ⟨ihS, ihB⟩ := ih S E X
    refine ⟨fun st t O h => ?_, fun sts t O h => ?_⟩
    · have f : ∀ e t, cE g n S E e = some t → PE X e t := fun e t h => (sound n).1 S E X O.toOkE e t h
      have ft : ∀ e t, cT g n S E e = some t → PT X e t := fun e t h => (sound n).2 S E X O.toOkE e t h
      cases st <;> first | exact cSt_ok O n _ h | skip
      case If c a b p =>
        obtain ⟨tc, h1, h2⟩ := Option.bind_eq_some_iff.mp h
        obtain ⟨ta, h3, h4⟩ := Option.bind_eq_some_iff.mp h2
        obtain ⟨tb, h5, rfl⟩ := Option.map_eq_some_iff.mp h4
        exact ps_ifU (ft _ _ h1) (ihB _ _ O h3) (ihB _ _ O h5)
      case While c b oe p =>
        cases oe with
        | cons _ _ => cases h
        | nil =>
          obtain ⟨tc, h1, h2⟩ := Option.bind_eq_some_iff.mp h
          obtain ⟨tb, h5, rfl⟩ := Option.map_eq_some_iff.mp h2
          exact ps_while O.po (ft _ _ h1) (ihB _ _ O h5)
      case For tg it b oe p =>
        cases oe with
        | cons _ _ => cases h
        | nil =>
          have h' : (if noSet it && S.cm then (cI g S (cE g n S E) tg it).bind fun wi => (cTg g S tg).bind fun t => (cSs g n S E b).map fun tb => forS wi t tb else none) = some t := h
          by_cases hs : (noSet it && S.cm) = true
          · rw [if_pos hs] at h'
            obtain ⟨hs, cm⟩ := Bool.and_eq_true_iff.mp hs
            obtain ⟨wi, h1, h2⟩ := Option.bind_eq_some_iff.mp h'
            obtain ⟨tt, h3, h4⟩ := Option.bind_eq_some_iff.mp h2
            obtain ⟨tb, h5, rfl⟩ := Option.map_eq_some_iff.mp h4
            exact forS_ok fun w hw => ps_for O.po (O.calm cm) (cI_ok O.toOkE f h1 w hw) (cTg_ok O.toOkE h3) (ihB _ _ O h5) (fold_no hs)
          · rw [if_neg hs] at h'
            cases h'
      case Try body hds oe fb p =>
        have h' : goTry g S E (cSs g n) body hds oe fb = some t := h
        unfold goTry at h'
        split at h'
        · rename_i x np m b₀ suite hp
          by_cases hs : (S.cm && S.xv.isNone && (S.sc.names.lookup m == some .local)) = true
          · rw [if_pos hs] at h'
            obtain ⟨hs, s3⟩ := Bool.and_eq_true_iff.mp hs
            obtain ⟨s1, s2⟩ := Bool.and_eq_true_iff.mp hs
            obtain ⟨c, h1, h2⟩ := Option.bind_eq_some_iff.mp h'
            obtain ⟨i, hi, rfl⟩ := Option.map_eq_some_iff.mp h2
            have hN := ixO_ok hi
            rw [← O.N] at hN
            have hl : X.env.scope.names.lookup m = some .local := by
              rw [O.sc]
              exact of_decide_eq_true (by simpa using s3)
            rw [← O.K]
            refine ps_try_as (tb := fun W => (cSs g n S (eW W) body).getD uNever) (ts := fun a c d => (cSs g n { S with cm := false, xv := some (a, c, d) } EZ (b₀ :: suite)).getD uNever) O.st.1 O.st.2 O.nd hN hl (hCls_ok O.toOkE h1) O.tk (fun W pn xe tk po => ?_) (fun a oe cls d pn hz hf => ?_)
            · show PSs _ _ ((cSs g n S (eW W) body).getD uNever)
              cases e : cSs g n S (eW W) body with
              | none => exact pss_neverU
              | some t => exact (ih S (eW W) (X.tr pn xe)).2 _ _ (O.tr W pn xe tk po (by simpa using s2)) e
            · show PSs _ _ ((cSs g n { S with cm := false, xv := some (a, cls, d) } EZ (b₀ :: suite)).getD uNever)
              cases e : cSs g n { S with cm := false, xv := some (a, cls, d) } EZ (b₀ :: suite) with
              | none => exact pss_neverU
              | some t => exact (ih _ _ _).2 _ _ (O.su pn hz hf) e
          · rw [if_neg hs] at h'
            cases h'
        · cases h'
    · rcases sts with _ | ⟨a, _ | ⟨b, r⟩⟩
      · cases h
        exact pss_nil
      · exact pss_one (ihS _ _ O h)
      · obtain ⟨ta, h1, h2⟩ := Option.bind_eq_some_iff.mp h
        obtain ⟨tb, h3, rfl⟩ := Option.map_eq_some_iff.mp h2
        by_cases hc : cutB a = true
        · rw [if_pos hc]
          exact pss_cut (ihS _ _ O h1) (ihB _ _ O h3)
        · rw [if_neg hc]
          exact pss_cons (ihS _ _ O h1) (ihB _ _ O h3)
end
end Rf
namespace Rf
open PySem L2 PySem.Spec PyProof.Rows

def scopeB (N P : List Str) (sc : Scope) : Bool := (match sc.kind with | .function => true | _ => false) && !sc.isCoroutine && !sc.isGenerator && decide N.Nodup && decide (N.take P.length = P) &&
  P.all (fun x => owB sc x) && sc.names.all (fun y => match y.2 with | .free => false | _ => true)
theorem scopeB_ok {N P : List Str} {sc : Scope} (h : scopeB N P sc = true) : FnScope N P sc := by
  unfold scopeB at h
  simp only [Bool.and_eq_true] at h
  obtain ⟨⟨⟨⟨⟨⟨h1, h2⟩, h3⟩, h4⟩, h5⟩, h6⟩, h7⟩ := h
  refine ⟨?_, by simpa using h2, by simpa using h3, of_decide_eq_true h4, of_decide_eq_true h5, fun x hx => ?_, fun y hy e => ?_⟩
  · split at h1
    · assumption
    · cases h1
  · exact owB_cases (List.all_eq_true.mp h6 x hx)
  · have q := List.all_eq_true.mp h7 y hy
    rw [e] at q
    cases q

section
variable (P : Program) (w : World) (K : PySem.W.Frag) (mg : Str → Option Value) (base : Heap)
/-- a def of the program's own, as its callers have it -/
def FnC (x : Str) (k : Nat) (sp : Sp) (dvs : List V) : Prop := ∃ f fd ps ds, FnOk P w K mg base (L2.CX P w) k f fd ps sp ∧ L2.Binds K fd ps ds ∧ Vals dvs ds ∧ mg x = some (.ref f) ∧ PySem.W.keepIn K (.ref f) = true
def ClC (x : Str) (C : Addr) (k : Nat) (sp : Sp) (dvs : List V) : Prop := ∃ f fd ps ds, FnOk P w K mg base (L2.CX P w) k f fd ps sp ∧ L2.Binds K fd ps ds ∧ Vals dvs ds ∧ mg x = some (.ref C) ∧ Mk K C f
def ExC (x : Str) (C : Addr) (k : Nat) (sp : Sp) (dvs : List V) : Prop := ∃ f fd ps ds, FnOk P w K mg base (L2.CX P w) k f fd ps sp ∧ L2.Binds K fd ps ds ∧ Vals dvs ds ∧ mg x = some (.ref C) ∧ OexC K C ∧ PySem.W.findIn K (.ref C) "__init__" = some (some (.ref f)) ∧ PySem.W.typeIn K (.ref f) = some (.type "function")
def MeC (m : Str) (C : Addr) (k : Nat) (sp : Sp) (dvs : List V) : Prop := ∃ f fd ps ds, FnOk P w K mg base (L2.CX P w) k f fd ps sp ∧ L2.Binds K fd ps ds ∧ Vals dvs ds ∧ Cls K C ∧ Meth K C m f
def FnEC (x : Str) (k : Nat) (sp : SpE) : Prop := ∃ f fd ps, FnE P w K mg base (L2.CX P w) k f fd ps sp ∧ L2.Binds K fd ps [] ∧ mg x = some (.ref f) ∧ PySem.W.keepIn K (.ref f) = true
def EntH (k : Nat) (x : Str) (sp : SpE) : Prop := ∃ j, j ≤ k ∧ FnEC P w K mg base x j sp
def AllH (k : Nat) : List (Str × SpE) → Prop
  | [] => True
  | p :: r => EntH P w K mg base k p.1 p.2 ∧ AllH k r
def EntG (k : Nat) (x : Str) : GK → Prop
  | .fn sp dvs => ∃ j, j ≤ k ∧ FnC P w K mg base x j sp dvs
  | .cls C sp dvs => ∃ j, j + 1 ≤ k ∧ ClC P w K mg base x C j sp dvs
  | .con v => ∃ u, mg x = some u ∧ RelV v u
  | .bl => mg x = none
  | .exc C sp dvs => ∃ j, j + 1 ≤ k ∧ ExC P w K mg base x C j sp dvs
  | .bex C => mg x = some (.ref C) ∧ BaseE K C
def EntM (k : Nat) (m : Str) (C : Addr) (sp : Sp) (dvs : List V) : Prop := ∃ j, j ≤ k ∧ MeC P w K mg base m C j sp dvs
def AllG (k : Nat) : List (Str × GK) → Prop
  | [] => True
  | p :: r => EntG P w K mg base k p.1 p.2 ∧ AllG k r
def AllM (k : Nat) : List (Str × Addr × Sp × List V) → Prop
  | [] => True
  | p :: r => EntM P w K mg base k p.1 p.2.1 p.2.2.1 p.2.2.2 ∧ AllM k r
end
section
variable {P : Program} {w : World} {K : PySem.W.Frag} {mg : Str → Option Value} {base : Heap} {k : Nat}
theorem AllG.at_ : ∀ {l : List (Str × GK)} {x : Str} {e : GK}, AllG P w K mg base k l → l.lookup x = some e → EntG P w K mg base k x e
  | [], _, _, _, h => by cases h
  | (y, v) :: r, x, e, a, h => by
    rw [List.lookup_cons] at h
    cases q : x == y with
    | true =>
      rw [q] at h
      cases h
      have e1 := eq_of_beq q
      subst e1
      exact a.1
    | false =>
      rw [q] at h
      exact AllG.at_ a.2 h
theorem AllM.at_ : ∀ {l : List (Str × Addr × Sp × List V)} {m : Str} {C : Addr} {sp : Sp} {dvs : List V}, AllM P w K mg base k l → (m, C, sp, dvs) ∈ l → EntM P w K mg base k m C sp dvs
  | [], _, _, _, _, _, h => by cases h
  | (y, v) :: r, m, C, sp, dvs, a, h => by
    rcases List.mem_cons.mp h with e | h
    · cases e
      exact a.1
    · exact AllM.at_ a.2 h
theorem AllH.at_ : ∀ {l : List (Str × SpE)} {x : Str} {sp : SpE}, AllH P w K mg base k l → l.lookup x = some sp → EntH P w K mg base k x sp
  | [], _, _, _, h => by cases h
  | (y, v) :: r, x, sp, a, h => by
    rw [List.lookup_cons] at h
    cases q : x == y with
    | true =>
      rw [q] at h
      cases h
      have e1 := eq_of_beq q
      subst e1
      exact a.1
    | false =>
      rw [q] at h
      exact AllH.at_ a.2 h
/-- the context of a def's body -/
theorem okS_of {N ps : List Str} {qual : Str} {scope : Scope} {f : Addr} {cd : Value} {A : Around} {outer : List Env} {s : Shared} {H : Hp} {E : XK} {G : List (Str × GK)} {M : List (Str × Addr × Sp × List V)} {Hs : List (Str × SpE)} (S : FnScope N ps scope)
    (hr : Room k (A.deeper (envOfC qual scope s.heap.objs.size f cd))) (aG : AllG P w K mg base k G) (aM : AllM P w K mg base k M) (aH : AllH P w K mg base k Hs) :
    OkS ⟨K, N, G, M, Hs⟩ ⟨scope, owB scope, true, none⟩ (fun _ => E) (cxOf (L2.CX P w) P w K mg base N qual scope f cd A outer s H E) where
  K := rfl
  N := rfl
  nd := S.nd
  sc := rfl
  ow := fun x h => ⟨owB_cases h, .inl rfl⟩
  kd := S.kind
  calm := fun _ => rfl
  un := by
    have := hr.un
    show (A.deeper (envOfC qual scope s.heap.objs.size f cd)).units + 100 < cLine
    omega
  ps := fun σ pins H s e s' I c => passes_call (takes_of rfl rfl rfl rfl) (fun _ _ _ _ h => h) pins σ H s e s' I c
  fn := fun _ x sp dvs h => by
    obtain ⟨j, hj, f, fd, ps, ds, F, b, d, hm, kp⟩ := aG.at_ h
    exact ⟨f, j, ⟨fd, ps, ds, F, b, d⟩, hr.mono hj, hm, kp⟩
  cls := fun _ x C sp dvs h => by
    obtain ⟨j, hj, f, fd, ps, ds, F, b, d, hm, mk⟩ := aG.at_ h
    exact ⟨f, j, ⟨fd, ps, ds, F, b, d⟩, hr.mono hj, hm, mk⟩
  exc := fun _ x C sp dvs h => by
    obtain ⟨j, hj, f, fd, ps, ds, F, b, d, hm, T, i1, t1⟩ := aG.at_ h
    exact ⟨f, j, ⟨fd, ps, ds, F, b, d⟩, hr.mono hj, hm, T, i1, t1⟩
  bex := fun x C h => aG.at_ h
  con := fun x v h => aG.at_ h
  bl := fun x h => aG.at_ h
  me := fun _ m C sp dvs h => by
    obtain ⟨j, hj, f, fd, ps, ds, F, b, d, c, me⟩ := aM.at_ h
    exact ⟨f, j, ⟨fd, ps, ds, F, b, d⟩, hr.mono hj, c, me⟩
  hfn := fun x sp h => by
    obtain ⟨j, hj, f, fd, ps, F, b, hm, kp⟩ := aH.at_ h
    exact ⟨f, j, ⟨fd, ps, F, b⟩, L2H.roomH_of (hr.mono hj), hm, kp⟩
  xv := fun a c d h => nomatch h
  po := passes_of rfl
  tk := takes_of rfl rfl rfl rfl
  st := ⟨rfl, rfl⟩
/-- THE RULE for a def: its reading by the compiler, its promise by that reading -/
theorem def_ok {x qual : Str} {pa : Arguments} {bd : List Stmt} {sc : Scope} {dvs : List V} {kws : List (Str × V)} {f : Addr} {fd : FuncData} {N ps : List Str} {sp : Sp} {G : List (Str × GK)} {M : List (Str × Addr × Sp × List V)} {Hs : List (Str × SpE)} {t : XK → TS}
    (F : FunD K x qual pa bd sc dvs kws f fd) (hS : scopeB N ps sc = true) (n : Nat) (len : ∀ vs H Q E, sp vs H Q E → vs.length = ps.length)
    (hc : ∀ E, cSs ⟨K, N, G, M, Hs⟩ n ⟨sc, owB sc, true, none⟩ (fun _ => E) bd = some (t E))
    (pure : ∀ vs H Q E, sp vs H Q E → t E { nx := fun _ H' => Q .non H', rt := Q } (start N vs) H) (aG : AllG P w K mg base k G) (aM : AllM P w K mg base k M) (aH : AllH P w K mg base k Hs) : FnOk P w K mg base (L2.CX P w) (k + 1) f fd ps sp :=
  F.ok (scopeB_ok hS) len fun cdv A outer s H vs Q E hr h => ⟨t E, (soundS n _ _ _).2 _ _ (okS_of (scopeB_ok hS) hr aG aM aH) (hc E), pure vs H Q E h⟩
/-- the context of a def's body that is called while an exception is handled -/
theorem okS_ofE {N ps : List Str} {qual : Str} {scope : Scope} {f : Addr} {cd : Value} {A : Around} {outer : List Env} {s : Shared} {H : Hp} {E : XK} {G : List (Str × GK)} {Hs : List (Str × SpE)} {a : Addr} {oe : Obj} {c : Value} {d : Option Addr} (S : FnScope N ps scope)
    (hh : A.handled = some (.ref a)) (hz : Zc c d oe) (hf : ∃ vs, oe.data = .fields vs) (hr : L2H.RoomH k (A.deeper (envOfC qual scope s.heap.objs.size f cd))) (aG : AllG P w K mg base k G) (aH : AllH P w K mg base k Hs) :
    OkS ⟨K, N, G, [], Hs⟩ ⟨scope, owB scope, false, some (a, c, d)⟩ (fun _ => E) (L2H.cxH (L2.CX P w) P w K mg base N qual scope f cd A outer s H E (a, oe)) where
  K := rfl
  N := rfl
  nd := S.nd
  sc := rfl
  ow := fun x h => ⟨owB_cases h, .inl rfl⟩
  kd := S.kind
  calm := fun z => Bool.noConfusion z
  un := by
    have := hr.un
    show (A.deeper (envOfC qual scope s.heap.objs.size f cd)).units + 100 < cLine
    omega
  ps := fun σ pins H s e s' I c => passes_call (takes_of rfl rfl rfl rfl) (fun _ _ _ _ h => h) pins σ H s e s' I c
  fn := fun z => Bool.noConfusion z
  cls := fun z => Bool.noConfusion z
  exc := fun z => Bool.noConfusion z
  bex := fun x C h => aG.at_ h
  con := fun x v h => aG.at_ h
  bl := fun x h => aG.at_ h
  me := fun z => Bool.noConfusion z
  hfn := fun x sp h => by
    obtain ⟨j, hj, f, fd, ps, F, b, hm, kp⟩ := aH.at_ h
    exact ⟨f, j, ⟨fd, ps, F, b⟩, hr.mono hj, hm, kp⟩
  xv := fun a' c' d' h => by
    cases h
    exact ⟨hh, oe, List.mem_cons_self, hz, hf⟩
  po := passes_of rfl
  tk := takes_of rfl rfl rfl rfl
  st := ⟨rfl, rfl⟩
/-- a def that is called in an except suite -/
theorem def_he {x : Str} {pa : Arguments} {bd : List Stmt} {sc : Scope} {N ps : List Str} {sp : SpE} {G : List (Str × GK)} {Hs : List (Str × SpE)} {t : Addr → Value → Option Addr → XK → TS}
    (F : ∃ fd, FunD K x x pa bd sc [] [] (He.ga K x) fd) (hm : mg x = some (.ref (He.ga K x))) (hS : scopeB N ps sc = true) (n : Nat) (len : ∀ a c d vs H Q E, sp a c d vs H Q E → vs.length = ps.length)
    (hc : ∀ a c d E, cSs ⟨K, N, G, [], Hs⟩ n ⟨sc, owB sc, false, some (a, c, d)⟩ (fun _ => E) bd = some (t a c d E))
    (pure : ∀ a c d vs H Q E, sp a c d vs H Q E → t a c d E { nx := fun _ H' => Q .non H', rt := Q } (start N vs) H) (aG : AllG P w K mg base k G) (aH : AllH P w K mg base k Hs)
    (hb : ∀ (kV doc pm : Value) (an : Option Addr) (cdv ct : Value) (us : List Value), us.length = ps.length → bindArgs (PySem.W.fnOf x x pa bd sc .none kV doc pm an cdv ct) ⟨us, []⟩ = Pure.pure (ps.zip us)) : FnEC P w K mg base x (k + 1) sp := by
  obtain ⟨fd, F⟩ := F
  refine ⟨_, fd, ps, fnE_of F (scopeB_ok hS) len fun cdv A outer s H vs Q E a oe c d hh hz hf hr h => ⟨t a c d E, ?_, pure a c d vs H Q E h⟩, F.bindsN hb, hm, F.kp⟩
  exact (soundS n _ _ _).2 _ _ (okS_ofE (scopeB_ok hS) hh hz hf hr aG aH) (hc a c d E)
/-- .. as callers have it -/
theorem def_fn {x : Str} {pa : Arguments} {bd : List Stmt} {sc : Scope} {N ps : List Str} {sp : Sp} {G : List (Str × GK)} {M : List (Str × Addr × Sp × List V)} {Hs : List (Str × SpE)} {t : XK → TS}
    (F : ∃ fd, FunD K x x pa bd sc [] [] (He.ga K x) fd) (hm : mg x = some (.ref (He.ga K x))) (hS : scopeB N ps sc = true) (n : Nat) (len : ∀ vs H Q E, sp vs H Q E → vs.length = ps.length)
    (hc : ∀ E, cSs ⟨K, N, G, M, Hs⟩ n ⟨sc, owB sc, true, none⟩ (fun _ => E) bd = some (t E))
    (pure : ∀ vs H Q E, sp vs H Q E → t E { nx := fun _ H' => Q .non H', rt := Q } (start N vs) H) (aG : AllG P w K mg base k G) (aM : AllM P w K mg base k M) (aH : AllH P w K mg base k Hs)
    (hb : ∀ (kV doc pm : Value) (an : Option Addr) (cdv ct : Value) (us : List Value), us.length = ps.length → bindArgs (PySem.W.fnOf x x pa bd sc .none kV doc pm an cdv ct) ⟨us, []⟩ = Pure.pure (ps.zip us)) : FnC P w K mg base x (k + 1) sp [] := by
  obtain ⟨fd, F⟩ := F
  exact ⟨_, fd, ps, [], def_ok F hS n len hc pure aG aM aH, F.bindsN hb, .nil, hm, F.kp⟩
theorem def_cl {x nm q : Str} {C f : Addr} {pa : Arguments} {bd : List Stmt} {sc : Scope} {N ps : List Str} {sp : Sp} {G : List (Str × GK)} {M : List (Str × Addr × Sp × List V)} {Hs : List (Str × SpE)} {t : XK → TS}
    (F : ∃ fd, FunD K nm q pa bd sc [] [] f fd) (hm : mg x = some (.ref C)) (mk : Mk K C f) (hS : scopeB N ps sc = true) (n : Nat) (len : ∀ vs H Q E, sp vs H Q E → vs.length = ps.length)
    (hc : ∀ E, cSs ⟨K, N, G, M, Hs⟩ n ⟨sc, owB sc, true, none⟩ (fun _ => E) bd = some (t E))
    (pure : ∀ vs H Q E, sp vs H Q E → t E { nx := fun _ H' => Q .non H', rt := Q } (start N vs) H) (aG : AllG P w K mg base k G) (aM : AllM P w K mg base k M) (aH : AllH P w K mg base k Hs)
    (hb : ∀ (kV doc pm : Value) (an : Option Addr) (cdv ct : Value) (us : List Value), us.length = ps.length → bindArgs (PySem.W.fnOf nm q pa bd sc .none kV doc pm an cdv ct) ⟨us, []⟩ = Pure.pure (ps.zip us)) : ClC P w K mg base x C (k + 1) sp [] := by
  obtain ⟨fd, F⟩ := F
  exact ⟨_, fd, ps, [], def_ok F hS n len hc pure aG aM aH, F.bindsN hb, .nil, hm, mk⟩
theorem def_me {m nm q : Str} {C f : Addr} {pa : Arguments} {bd : List Stmt} {sc : Scope} {N ps : List Str} {sp : Sp} {G : List (Str × GK)} {M : List (Str × Addr × Sp × List V)} {Hs : List (Str × SpE)} {t : XK → TS}
    (F : ∃ fd, FunD K nm q pa bd sc [] [] f fd) (c : Cls K C) (me : Meth K C m f) (hS : scopeB N ps sc = true) (n : Nat) (len : ∀ vs H Q E, sp vs H Q E → vs.length = ps.length)
    (hc : ∀ E, cSs ⟨K, N, G, M, Hs⟩ n ⟨sc, owB sc, true, none⟩ (fun _ => E) bd = some (t E))
    (pure : ∀ vs H Q E, sp vs H Q E → t E { nx := fun _ H' => Q .non H', rt := Q } (start N vs) H) (aG : AllG P w K mg base k G) (aM : AllM P w K mg base k M) (aH : AllH P w K mg base k Hs)
    (hb : ∀ (kV doc pm : Value) (an : Option Addr) (cdv ct : Value) (us : List Value), us.length = ps.length → bindArgs (PySem.W.fnOf nm q pa bd sc .none kV doc pm an cdv ct) ⟨us, []⟩ = Pure.pure (ps.zip us)) : MeC P w K mg base m C (k + 1) sp [] := by
  obtain ⟨fd, F⟩ := F
  exact ⟨_, fd, ps, [], def_ok F hS n len hc pure aG aM aH, F.bindsN hb, .nil, c, me⟩
end
/-- a law's end: what may be let out hangs on the world -/
theorem walk_ofW {l : PySem.W.OpenLaw} {n k : Nat} {q : Program} {loose : List Str} {XP : (Str → Option Value) → Heap → Prop} {YP : World → Heap → Prop} {d : DefRec} {x : Str}
    (hn : l.most = some n) (hn2 : n ≤ sizeLine) (hdf : d.params.defaults = []) (hr : Room k callerA)
    (F : ∀ (w : World) (mg : Str → Option Value) (fa : Addr) (h : Heap), YP w h → h.Ns mainGlobals mg → mg d.name = some (.ref fa) →
      ∃ (K : PySem.W.Frag) (fd : FuncData) (sp : Sp), K.In h ∧ (∀ (s : Shared) (u : Value), BindsTo s fd ⟨[u], []⟩ [(x, u)]) ∧
        (∀ (H : Hp) (a : Addr) (ns : List Int), ns.length ≤ n → Only H → SqL K H a (ns.map V.int) → sp [.ref a] H (fun v _ => v = .bl true) fun _ _ _ => False) ∧
        ∀ base : Heap, K.In base → base.Ns mainGlobals mg → FnOk l.prog w K mg base (L2.CX l.prog w) k fa fd [x] sp) :
    PySem.W.WalkO q loose XP YP l.row.toRowW d [] (fun f vs => PySem.call f vs) := by
  refine Att.attach_call hn hdf fun w s₀ s₁ mg mb fa o pm cd doc a vs ns G Y ho hd hcd hmg hobj hints hlen hg => ?_
  obtain ⟨K, fd, sp, KX, hb, hsp, hF⟩ := F w mg fa _ Y G.T.g hmg
  exact law_call KX G.T.g G.T.b G.T.builtins G.T.nolimit hg hobj hints (Nat.le_trans hlen hn2) hr hF hb (fun H hO hS => hsp H a ns hlen hO hS) fun H e s' z => by
    obtain ⟨_, _, _, _, _, _, _, _, _, _, _, _, z⟩ := z
    exact z.elim
end Rf
namespace Rf
open PySem L2 PySem.Spec PyProof.Rows
/-! ### facts about own exception classes, as Booleans (for hookX) -/
def vInit : Option Value → Bool
  | some (.builtin n) => decide (n = "ValueError.__init__")
  | _ => false
def cFoundB : Option PySem.W.CFound → Bool
  | some (.val (.builtin n)) => decide (n = "ValueError.__init__")
  | _ => false
theorem cFoundB_ok {o : Option PySem.W.CFound} (h : cFoundB o = true) : o = some (.val (.builtin "ValueError.__init__")) := by
  unfold cFoundB at h
  split at h
  · rw [of_decide_eq_true h]
  · cases h
/-- the base class -/
def bexB (K : PySem.W.Frag) (C : Addr) : Bool := decide (PySem.W.specialIn K (.ref C) "__getattribute__" = some (some (.builtin "type.__getattribute__"))) && (PySem.W.readsIn K C (.type "type") && (decide (PySem.W.typeIn K (.ref C) = some (.type "type")) && cFoundB (PySem.W.findCls K (.ref C) (.type "type") "__init__")))
theorem bexB_ok {K : PySem.W.Frag} {C : Addr} (h : bexB K C = true) : BaseE K C := by
  obtain ⟨h1, h⟩ := Bool.and_eq_true_iff.mp h
  obtain ⟨h2, h⟩ := Bool.and_eq_true_iff.mp h
  obtain ⟨h3, h4⟩ := Bool.and_eq_true_iff.mp h
  exact ⟨of_decide_eq_true h1, h2, of_decide_eq_true h3, cFoundB_ok h4⟩
def oexO (C : Addr) : Option Obj → Bool
  | some ⟨.type "type", _, .cls cd, sl⟩ => (match cd.mro, sl.toList with
    | .ref C' :: bm, [_, _, _, _, some (.builtin n), _] => decide (C' = C) && (decide (n = "ValueError.__new__") && (cd.hasDict && (!cd.hasDel && PySem.HandSPX.refsVE bm)))
    | _, _ => false)
  | _ => false
def oexB (K : PySem.W.Frag) (C : Addr) : Bool := oexO C (K.lookup C) && (decide (PySem.W.findIn K (.ref C) "__setattr__" = some (some (.builtin "object.__setattr__"))) && (decide (PySem.W.subIn K (.ref C) (.type "BaseException") = some true) && (decide (PySem.W.typeIn K (.ref C) = some (.type "type")) && PySem.W.keepIn K (.ref C))))
theorem oexB_ok {K : PySem.W.Frag} {C : Addr} (h : oexB K C = true) : OexC K C := by
  obtain ⟨h1, h⟩ := Bool.and_eq_true_iff.mp h
  obtain ⟨h2, h⟩ := Bool.and_eq_true_iff.mp h
  obtain ⟨h3, h⟩ := Bool.and_eq_true_iff.mp h
  obtain ⟨h4, h5⟩ := Bool.and_eq_true_iff.mp h
  refine ⟨?_, of_decide_eq_true h2, of_decide_eq_true h3, of_decide_eq_true h4, h5⟩
  unfold oexO at h1
  split at h1
  · rename_i dd cd sl ho
    split at h1
    · rename_i C' bm k0 k1 k2 k3 n k5 hm hs
      simp only [Bool.and_eq_true, decide_eq_true_eq, Bool.not_eq_true'] at h1
      obtain ⟨rfl, rfl, hdi, hdel, hr⟩ := h1
      obtain ⟨nm, bs, mro, ns, qn, hd, sn, sub, ab, col, del⟩ := cd
      dsimp only at hm hdel hdi
      subst hm hdel hdi
      have hsl : sl = #[k0, k1, k2, k3, some (.builtin "ValueError.__new__"), k5] := by
        obtain ⟨l⟩ := sl
        simp only at hs
        rw [hs]
      subst hsl
      exact ⟨nm, qn, ns, bs, bm, sn, sub, ab, col, dd, k0, k1, k2, k3, k5, ho, hr⟩
    · cases h1
  · cases h1
def exInitB (K : PySem.W.Frag) (C : Addr) : Bool := decide (PySem.W.findIn K (.ref C) "__init__" = some (some (.ref (He.ma K C "__init__")))) && decide (PySem.W.typeIn K (.ref (He.ma K C "__init__")) = some (.type "function"))
section
variable {P : Program} {w : World} {K : PySem.W.Frag} {mg : Str → Option Value} {base : Heap} {k : Nat}
/-- an own exception class with its own __init__ -/
theorem def_ex {x nm q : Str} {C f : Addr} {pa : Arguments} {bd : List Stmt} {sc : Scope} {N ps : List Str} {sp : Sp} {G : List (Str × GK)} {M : List (Str × Addr × Sp × List V)} {Hs : List (Str × SpE)} {t : XK → TS}
    (F : ∃ fd, FunD K nm q pa bd sc [] [] f fd) (hm : mg x = some (.ref C)) (T : OexC K C) (iC : PySem.W.findIn K (.ref C) "__init__" = some (some (.ref f))) (tI : PySem.W.typeIn K (.ref f) = some (.type "function")) (hS : scopeB N ps sc = true) (n : Nat) (len : ∀ vs H Q E, sp vs H Q E → vs.length = ps.length)
    (hc : ∀ E, cSs ⟨K, N, G, M, Hs⟩ n ⟨sc, owB sc, true, none⟩ (fun _ => E) bd = some (t E))
    (pure : ∀ vs H Q E, sp vs H Q E → t E { nx := fun _ H' => Q .non H', rt := Q } (start N vs) H) (aG : AllG P w K mg base k G) (aM : AllM P w K mg base k M) (aH : AllH P w K mg base k Hs)
    (hb : ∀ (kV doc pm : Value) (an : Option Addr) (cdv ct : Value) (us : List Value), us.length = ps.length → bindArgs (PySem.W.fnOf nm q pa bd sc .none kV doc pm an cdv ct) ⟨us, []⟩ = Pure.pure (ps.zip us)) : ExC P w K mg base x C (k + 1) sp [] := by
  obtain ⟨fd, F⟩ := F
  exact ⟨_, fd, ps, [], def_ok F hS n len hc pure aG aM aH, F.bindsN hb, .nil, hm, T, iC, tI⟩
end
/-- one exception class's facts -/
theorem exInitB_ok {K : PySem.W.Frag} {C : Addr} (h : exInitB K C = true) : PySem.W.findIn K (.ref C) "__init__" = some (some (.ref (He.ma K C "__init__"))) ∧ PySem.W.typeIn K (.ref (He.ma K C "__init__")) = some (.type "function") := by
  obtain ⟨h1, h2⟩ := Bool.and_eq_true_iff.mp h
  exact ⟨of_decide_eq_true h1, of_decide_eq_true h2⟩
/-! ### an observation that sees the interpreter's own table, too -/
abbrev AlY : Type := He.AlD × Bool
def asY (g : Addr → Option Obj) (n : Nat) : List Addr := cStatics :: He.asD g n
def obsY (n : Nat) (fa : List He.Fa) (fn : List He.DefD) (ex : PySem.W.Frag → Bool) (g : Addr → Option Obj) : AlY := (He.obsD fa fn (He.frG g (asY g n)), ex (He.frG g (asY g n)))
def valY (fn : List He.DefD) : AlY := (He.valD fn, true)
structure SaysY (fa : List He.Fa) (fn : List He.DefD) (ex : PySem.W.Frag → Bool) (K : PySem.W.Frag) : Prop where
  d : He.SaysD fa fn K
  more : ex K = true
def hookY (n : Nat) (fa : List He.Fa) (fn : List He.DefD) (ex : PySem.W.Frag → Bool) : PySem.W.Hook where
  α := AlY
  obs := fun s => obsY n fa fn ex s.heap.get?
  val := fun _ => valY fn
  says := fun _ h => ∃ K : PySem.W.Frag, K.In h ∧ SaysY fa fn ex K
  of := fun _ _ e => ⟨_, He.frG_in, congrArg (fun z : AlY => z.1) e, congrArg (fun z : AlY => z.2) e⟩
  keeps := fun _ _ _ ⟨K, hK, c⟩ k => ⟨K, PySem.W.Frag.In.keeps hK k, c⟩
theorem obsY_eq {n : Nat} {fa : List He.Fa} {fn : List He.DefD} {ex : PySem.W.Frag → Bool} {g : Addr → Option Obj} {s : Shared} (h : ∀ a, g a = s.heap.get? a) : obsY n fa fn ex g = (hookY n fa fn ex).obs s := by
  obtain rfl : g = s.heap.get? := funext h
  rfl
/-! ### the classes of refusals: what is asked of them -/
def isCB (K : PySem.W.Frag) (D : Addr) : Bool := (PySem.W.clsIn K D).isSome && (decide (PySem.W.findIn K (.ref D) "__getattribute__" = some (some (.builtin "BaseException.__getattribute__"))) && (decide (PySem.W.findIn K (.ref D) "__getattr__" = some none) &&
  (decide (PySem.W.subIn K (.ref D) (.type "BaseException") = some true) && (decide (PySem.W.findIn K (.ref D) "__class__" = some (some (.builtin "object.__class__"))) && (decide (PySem.W.specialIn K (.builtin "object.__class__") "__get__" = some (some (.builtin "getset_descriptor.__get__"))) &&
  (decide (PySem.W.takesIn K (.builtin "object.__class__") = some true) && (decide (PySem.W.mroIn K D (.type "object") = some true) && PySem.W.hasDictIn K D)))))))
theorem isCB_ok {K : PySem.W.Frag} {D : Addr} (h : isCB K D = true) : IsC K D := by
  unfold isCB at h
  simp only [Bool.and_eq_true, decide_eq_true_eq] at h
  obtain ⟨h1, h2, h3, h4, h5, h6, h7, h8, h9⟩ := h
  exact ⟨h1, h2, h3, h4, h5, h6, h7, h8, h9⟩
def fdB (K : PySem.W.Frag) (C : Addr) (f : Str) : Bool := xfB K C && decide (PySem.W.findIn K (.ref C) f = some none)
abbrev Errs := List (Str × List Str)
structure ErrK (K : PySem.W.Frag) (errs : Errs) (tests : List Str) : Prop where
  oex : ∀ e ∈ errs, OexC K (He.ga K e.1)
  isc : ∀ e ∈ errs, IsC K (He.ga K e.1)
  fd : ∀ e ∈ errs, ∀ f ∈ e.2, FdC K (He.ga K e.1) f
  kit : ∀ e ∈ errs, ∀ t ∈ tests, PySem.W.kitOne K (.ref (He.ga K e.1)) (.ref (He.ga K t)) = some (decide (e.1 = t))
  cut : ∀ e ∈ errs, PySem.W.kitOne K (.ref (He.ga K e.1)) (.ref (He.ga K "CutError")) = some true
  val : ∀ e ∈ errs, PySem.W.kitOne K (.ref (He.ga K e.1)) (.type "ValueError") = some true
  exm : ∀ e ∈ errs, PySem.W.exmOne K (.ref (He.ga K e.1)) (.ref (He.ga K "CutError")) = some true
theorem ErrK.na {K : PySem.W.Frag} {errs : Errs} {tests : List Str} (h : ErrK K errs tests) {e : Str × List Str} (he : e ∈ errs) {f : Str} (hf : f ∈ e.2) : NoAttr K (He.ga K e.1) f := (h.fd e he f hf).no
def errB (K : PySem.W.Frag) (errs : Errs) (tests : List Str) : Bool := errs.all fun e => oexB K (He.ga K e.1) && (isCB K (He.ga K e.1) && (e.2.all (fun f => fdB K (He.ga K e.1) f) && (tests.all (fun t => decide (PySem.W.kitOne K (.ref (He.ga K e.1)) (.ref (He.ga K t)) = some (decide (e.1 = t)))) &&
  (decide (PySem.W.kitOne K (.ref (He.ga K e.1)) (.ref (He.ga K "CutError")) = some true) && (decide (PySem.W.kitOne K (.ref (He.ga K e.1)) (.type "ValueError") = some true) && decide (PySem.W.exmOne K (.ref (He.ga K e.1)) (.ref (He.ga K "CutError")) = some true))))))
theorem errB_ok {K : PySem.W.Frag} {errs : Errs} {tests : List Str} (h : errB K errs tests = true) : ErrK K errs tests := by
  have a : ∀ e ∈ errs, _ := List.all_eq_true.mp h
  simp only [Bool.and_eq_true, decide_eq_true_eq] at a
  refine ⟨fun e he => oexB_ok (a e he).1, fun e he => isCB_ok (a e he).2.1, fun e he f hf => ?_, fun e he t ht => ?_, fun e he => (a e he).2.2.2.2.1, fun e he => (a e he).2.2.2.2.2.1, fun e he => (a e he).2.2.2.2.2.2⟩
  · have q := List.all_eq_true.mp (a e he).2.2.1 f hf
    unfold fdB at q
    simp only [Bool.and_eq_true, decide_eq_true_eq] at q
    exact ⟨xfB_ok q.1, q.2⟩
  · exact of_decide_eq_true (List.all_eq_true.mp (a e he).2.2.2.1 t ht)
end Rf
/-! Small rules for reading readings. -/
namespace Rf
open PySem L2 PySem.Spec PyProof.Rows
theorem cutW {t u : TS} {D : Ends} {σ : L2.St} {H : Hp} (R : L2.St → Prop) (h1 : t { D with nx := fun σ' H' => R σ' ∧ H' = H } σ H) (h2 : ∀ σ', R σ' → u D σ' H) : tCut t u D σ H :=
  ⟨fun σ' H' => R σ' ∧ H' = H, h1, fun σ' H' ⟨r, e⟩ => by rw [e]; exact h2 σ' r⟩
theorem cutH {t u : TS} {D : Ends} {σ : L2.St} {H : Hp} (R : L2.St → Hp → Prop) (h1 : t { D with nx := R } σ H) (h2 : ∀ σ' H', R σ' H' → u D σ' H') : tCut t u D σ H := ⟨R, h1, h2⟩
theorem cutN {t u : TS} {D : Ends} {σ : L2.St} {H : Hp} (h1 : t { D with nx := u D } σ H) : tCut t u D σ H := ⟨_, h1, fun _ _ h => h⟩
theorem mulL {i j : Int} (h : -(2 ^ 64) < i ∧ i < 2 ^ 64) : CMulU i j := .inl (.inl h)
theorem mulR {i j : Int} (h : -(2 ^ 64) < j ∧ j < 2 ^ 64) : CMulU i j := .inl (.inr h)
theorem divS {i j : Int} (h : 0 < j) (h2 : j < 2 ^ 62) : CDivW i j := wide_div (b := 62) h (by omega) (by decide) (by decide)
/-- an item of a list at a place within -/
theorem atI_in {α : Type} {xs : List α} {i : Int} (h0 : 0 ≤ i) (h1 : i < xs.length) : ∃ v, atI xs i = some v ∧ v ∈ xs := by
  obtain ⟨j, rfl⟩ : ∃ j : Nat, i = j := ⟨i.toNat, by omega⟩
  have hj : j < xs.length := by omega
  exact ⟨xs[j], atI_nat (by simp [hj]), List.getElem_mem hj⟩
/-- o[i] of a list that is read -/
theorem ixL {K : PySem.W.Frag} {p : Addr} {xs : List V} {i : Int} {v : V} {H : Hp} {Q : VK} (h : SqL K H p xs) (e : atI xs i = some v) (q : Q v H) : rIxU K (.ref p) (.int i) H Q := by
  unfold rIxU
  exact .inl (.inl ⟨p, xs, i, v, rfl, rfl, h, e, q⟩)
theorem ixTk {K : PySem.W.Frag} {p : Addr} {xs : List V} {i : Int} {v : V} {H : Hp} {Q : VK} (h : H p = some (.tup xs)) (e : atI xs i = some v) (q : Q v H) : rIxU K (.ref p) (.int i) H Q := by
  unfold rIxU
  exact .inl (.inr (.inl ⟨p, xs, i, v, rfl, rfl, SqT.of h, e, q⟩))
theorem ixLk {K : PySem.W.Frag} {p : Addr} {xs : List V} {i : Int} {v : V} {H : Hp} {Q : VK} (h : H p = some (.lst xs)) (e : atI xs i = some v) (q : Q v H) : rIxU K (.ref p) (.int i) H Q := ixL (SqL.of h) e q
/-- some item of a list that is read -/
theorem ixIn {K : PySem.W.Frag} {p : Addr} {xs : List V} {i : Int} {H : Hp} {Q : VK} (h : SqL K H p xs) (h0 : 0 ≤ i) (h1 : i < xs.length) (q : ∀ v, v ∈ xs → Q v H) : rIxU K (.ref p) (.int i) H Q := by
  obtain ⟨v, e, m⟩ := atI_in h0 h1
  exact ixL h e (q v m)
theorem setLk {p : Addr} {xs : List V} {i : Int} {j : Nat} {v : V} {H : Hp} {Q : Hp → Prop} (h : H p = some (.lst xs)) (e : ixN xs.length i = some j) (q : Q (upd H p (.lst (xs.set j v)))) : rSetU (.ref p) (.int i) v H Q := by
  unfold rSetU
  exact .inl ⟨p, xs, i, j, rfl, rfl, h, e, q⟩
/-- for over what is walked, over a range, over a list -/
theorem forIt {J : It} {n : Nat} {G : Hp → Prop} {Y : Nat → Hp → V → Hp → Prop} (w : Walk J n G Y) {g : TG} {tb : TS} {D : Ends} {σ : L2.St} {H : Hp} (Pv : Nat → L2.St → Hp → Prop) (h0 : Pv 0 σ H) (hG : ∀ i σ H, i ≤ n → Pv i σ H → G H)
    (hs : ∀ i x σ H H', i < n → Pv i σ H → Y i H x H' → g x σ H' fun σ2 H2 => tb { D with nx := Pv (i + 1), ct := Pv (i + 1), bk := D.nx } σ2 H2) (hd : ∀ σ H, Pv n σ H → D.nx σ H) : forU J g tb D σ H := by
  unfold forU
  exact for_it w Pv h0 hG hs hd
theorem forR {lo : Int} {n : Nat} {g : TG} {tb : TS} {D : Ends} {σ : L2.St} {H : Hp} (Pv : Nat → L2.St → Hp → Prop) (h0 : Pv 0 σ H)
    (hs : ∀ i σ H, i < n → Pv i σ H → g (.int (lo + i)) σ H fun σ2 H2 => tb { D with nx := Pv (i + 1), ct := Pv (i + 1), bk := D.nx } σ2 H2) (hd : ∀ σ H, Pv n σ H → D.nx σ H) : forU (Itr lo n) g tb D σ H := by
  unfold forU
  exact for_range Pv h0 hs hd
theorem forL {K : PySem.W.Frag} {a : Addr} {xs : List V} {g : TG} {tb : TS} {D : Ends} {σ : L2.St} {H : Hp} (_ : SqL K H a xs) (Pv : Nat → L2.St → Hp → Prop) (h0 : Pv 0 σ H) (hl : ∀ i σ H, i ≤ xs.length → Pv i σ H → SqL K H a xs)
    (hs : ∀ i x σ H, xs[i]? = some x → Pv i σ H → g x σ H fun σ2 H2 => tb { D with nx := Pv (i + 1), ct := Pv (i + 1), bk := D.nx } σ2 H2) (hd : ∀ σ H, Pv xs.length σ H → D.nx σ H) : forU (Itl K a) g tb D σ H := by
  unfold forU
  exact for_list Pv h0 hl hs hd
/-- a list gathered over what is walked -/
theorem lcIt {J : It} {n : Nat} {G : Hp → Prop} {Y : Nat → Hp → V → Hp → Prop} (w : Walk J n G Y) {g : TG} {tt : TT} {te : TE} {vs : List Nat} {σ : L2.St} {H1 : Hp} {Q : VK}
    (h : ∀ D, H1 D = none → ∃ Pv : Nat → Hp → Prop, Pv 0 (L2.upd H1 D (.lst [])) ∧ (∀ i H, i ≤ n → Pv i H → G H) ∧ (∀ i x H H', i < n → Pv i H → Y i H x H' → g x (wipe σ vs) H' fun σ2 H2 => wipe σ2 vs = wipe σ vs ∧ tt σ2 H2 fun b H3 =>
      cnd b (te σ2 H3 fun y H4 => ∃ acc, H4 D = some (.lst acc) ∧ acc.length < sizeLine ∧ Pv (i + 1) (L2.upd H4 D (.lst (acc ++ [y])))) (Pv (i + 1) H3)) ∧ ∀ H, Pv n H → Q (.ref D) H) : lcU J g tt te vs σ H1 Q := by
  unfold lcU
  intro D hD
  obtain ⟨Pv, h0, hG, hs, hd⟩ := h D hD
  simp only [cnd_if] at hs ⊢
  exact lc_it w Pv h0 hG hs hd
theorem _root_.L2.Same.upd {H0 H : Hp} {p : Addr} {o : HO} (s : Same H0 H) (h : H0 p = none) : Same H0 (L2.upd H p o) := fun b u e => by
  rw [upd_ne (ne_of_none e h)]
  exact s b u e
theorem _root_.L2.Same.new {H0 H : Hp} {p : Addr} {o : HO} (s : Same H0 H) (h : H p = none) : Same H0 (L2.upd H p o) := L2.Same.upd s (s.free h)
/-- the same, where what stands stays: what is gathered ahead of turn i is acc i -/
theorem lcAcc {J : It} {n : Nat} {G : Hp → Prop} {Y : Nat → Hp → V → Hp → Prop} (w : Walk J n G Y) {g : TG} {tt : TT} {te : TE} {vs : List Nat} {σ : L2.St} {H1 : Hp} {Q : VK} (acc : Nat → List V) (ha : acc 0 = []) (hl : ∀ i, i < n → (acc i).length < sizeLine) (hG : ∀ H, Same H1 H → G H)
    (hs : ∀ i x H H', i < n → Same H1 H → Y i H x H' → ∀ (R : VK) (R' : Hp → Prop), (∀ y H4, Same H H4 → acc (i + 1) = acc i ++ [y] → R y H4) → (∀ H4, Same H H4 → acc (i + 1) = acc i → R' H4) →
      g x (wipe σ vs) H' fun σ2 H2 => wipe σ2 vs = wipe σ vs ∧ tt σ2 H2 fun b H3 => cnd b (te σ2 H3 R) (R' H3))
    (hd : ∀ D H, H D = some (.lst (acc n)) → Same H1 H → Q (.ref D) H) : lcU J g tt te vs σ H1 Q := by
  refine lcIt w fun D hD => ⟨fun i H => Same H1 H ∧ H D = some (.lst (acc i)), ⟨Same.new (Same.refl _) hD, by rw [ha]; exact upd_same⟩, fun i H _ p => hG H p.1, fun i x H H' hi p y => ?_, fun H p => hd D H p.2 p.1⟩
  refine hs i x H H' hi p.1 y _ _ (fun z H4 s e => ⟨acc i, s _ _ p.2, hl i hi, Same.upd (fun b u k => s _ _ (p.1 b u k)) hD, ?_⟩) (fun H4 s e => ⟨fun b u k => s _ _ (p.1 b u k), ?_⟩)
  · rw [e]; exact upd_same
  · rw [e]; exact s _ _ p.2
/-- all but the object at p is as it was -/
def But (p : Addr) (H H' : Hp) : Prop := ∀ b, b ≠ p → H' b = H b
theorem But.upd {p : Addr} {o : HO} {H : Hp} : But p H (L2.upd H p o) := fun b h => upd_ne h
theorem But.refl {p : Addr} {H : Hp} : But p H H := fun _ _ => rfl
theorem But.trans {p : Addr} {H H1 H2 : Hp} (a : But p H H1) (b : But p H1 H2) : But p H H2 := fun c h => (b c h).trans (a c h)
theorem But.updT {p : Addr} {o : HO} {H H1 : Hp} (a : But p H H1) : But p H (L2.upd H1 p o) := a.trans But.upd
theorem _root_.L2.Same.but {H0 H1 H2 : Hp} {p : Addr} (s : Same H0 H1) (h : H0 p = none) (b : But p H1 H2) : Same H0 H2 := fun c o e => (b c (ne_of_none e h)).trans (s c o e)
theorem But.at {p q : Addr} {H H' : Hp} {o : HO} (b : But p H H') (h : H q = some o) (ne : q ≠ p) : H' q = some o := (b q ne).trans h
theorem But.none {p q : Addr} {H H' : Hp} {o : HO} (b : But p H H') (hp : H p = some o) (h : H' q = none) (hp' : H' p ≠ none) : H q = none := by
  by_cases e : q = p
  · rw [e] at h; exact absurd h hp'
  · rw [← b q e]; exact h
/-! ### a value's kind -/
theorem TyX.mono {K : PySem.W.Frag} {H H' : Hp} {v : V} {t : Value} (s : Same H H') (h : TyX K H v t) : TyX K H' v t := by
  cases h with
  | base b =>
    refine .base ?_
    cases b with
    | non => exact .non
    | bl x => exact .bl x
    | int i => exact .int i
    | str x => exact .str x
    | flt x => exact .flt x
    | lst e => exact .lst (s _ _ e)
    | frz e => exact .frz (s _ _ e)
    | tup e => exact .tup (s _ _ e)
    | dK e => exact .dK (s _ _ e)
    | dT e => exact .dT (s _ _ e)
    | ins e a b c d f => exact .ins (s _ _ e) a b c d f
  | byt b => exact .byt b
  | set e => exact .set (s _ _ e)
  | kList e c => exact .kList e c
  | kTuple e c => exact .kTuple e c
  | kDict e c => exact .kDict e c
  | fTuple e => exact .fTuple (s _ _ e)
  | fDict e => exact .fDict (s _ _ e)
def TyN (K : PySem.W.Frag) (H : Hp) (v : V) (t : String) : Prop := match v with
  | .int _ => t = "int"
  | .bl _ => t = "bool"
  | .str _ => t = "str"
  | .non => t = "NoneType"
  | .ref p => (t = "list" ∨ t = "tuple" ∨ t = "dict") ∧ TyX K H (.ref p) (.type t)
  | _ => False
theorem TyN.mono {K : PySem.W.Frag} {H H' : Hp} {v : V} {t : String} (s : Same H H') (h : TyN K H v t) : TyN K H' v t := by
  cases v <;> first | exact h | exact ⟨h.1, TyX.mono s h.2⟩
theorem TyN.lst {K : PySem.W.Frag} {H : Hp} {p : Addr} {xs : List V} (h : H p = some (.lst xs)) : TyN K H (.ref p) "list" := ⟨.inl rfl, .base (.lst h)⟩
theorem TyN.tup {K : PySem.W.Frag} {H : Hp} {p : Addr} {xs : List V} (h : H p = some (.tup xs)) : TyN K H (.ref p) "tuple" := ⟨.inr (.inl rfl), .base (.tup h)⟩
theorem TyN.dK {K : PySem.W.Frag} {H : Hp} {p : Addr} {xs : List (Key × V)} (h : H p = some (.dK xs)) : TyN K H (.ref p) "dict" := ⟨.inr (.inr rfl), .base (.dK h)⟩
theorem TyN.isL {K : PySem.W.Frag} {H : Hp} {v : V} {t : String} (h : TyN K H v t) : isL1.contains t = true := by
  cases v <;> first | exact False.elim h | skip
  · have e : t = "NoneType" := h; subst e; decide +kernel
  · have e : t = "bool" := h; subst e; decide +kernel
  · have e : t = "int" := h; subst e; decide +kernel
  · have e : t = "str" := h; subst e; decide +kernel
  · rcases h.1 with e | e | e <;> (subst e; decide +kernel)
theorem isiN {K : PySem.W.Frag} {H : Hp} {v : V} {t T : String} {b : Bool} {Q : VK} (h : TyN K H v t) (e : isO t T = some b) (q : Q (.bl b) H) : rIsiU K [v, .ty T] H Q := by
  unfold rIsiU
  cases v <;> first | exact False.elim h | skip
  · have e1 : t = "NoneType" := h; subst e1; exact ⟨b, e, q⟩
  · have e1 : t = "bool" := h; subst e1; exact ⟨b, e, q⟩
  · have e1 : t = "int" := h; subst e1; exact ⟨b, e, q⟩
  · have e1 : t = "str" := h; subst e1; exact ⟨b, e, q⟩
  · exact ⟨t, h.2, b, e, q⟩
/-- is it an int that is no truth, a text -/
theorem TyN.int_or {K : PySem.W.Frag} {H : Hp} {v : V} {t : String} (h : TyN K H v t) : (∃ i, v = .int i ∧ t = "int") ∨ ((∀ i, v ≠ .int i) ∧ ((isO t "int" = some false) ∨ (isO t "int" = some true ∧ isO t "bool" = some true))) := by
  cases v <;> first | exact False.elim h | skip
  · have e : t = "NoneType" := h; subst e; exact .inr ⟨fun i => by simp, .inl (by decide +kernel)⟩
  · have e : t = "bool" := h; subst e; exact .inr ⟨fun i => by simp, .inr ⟨by decide +kernel, by decide +kernel⟩⟩
  · have e : t = "int" := h; exact .inl ⟨_, rfl, e⟩
  · have e : t = "str" := h; subst e; exact .inr ⟨fun i => by simp, .inl (by decide +kernel)⟩
  · rcases h.1 with e | e | e <;> (subst e; exact .inr ⟨fun i => by simp, .inl (by decide +kernel)⟩)
theorem TyN.str_or {K : PySem.W.Frag} {H : Hp} {v : V} {t : String} (h : TyN K H v t) : (∃ z, v = .str z ∧ t = "str") ∨ ((∀ z, v ≠ .str z) ∧ isO t "str" = some false) := by
  cases v <;> first | exact False.elim h | skip
  · have e : t = "NoneType" := h; subst e; exact .inr ⟨fun i => by simp, by decide +kernel⟩
  · have e : t = "bool" := h; subst e; exact .inr ⟨fun i => by simp, by decide +kernel⟩
  · have e : t = "int" := h; subst e; exact .inr ⟨fun i => by simp, by decide +kernel⟩
  · have e : t = "str" := h; exact .inl ⟨_, rfl, e⟩
  · rcases h.1 with e | e | e <;> (subst e; exact .inr ⟨fun i => by simp, by decide +kernel⟩)
theorem lg {n k : Nat} {m : Nat} (h : n < 2 ^ k) (hk : k ≤ m) (h0 : 0 < m := by decide) : n.log2 < m := by
  by_cases e : n = 0
  · rw [e]; simpa using h0
  · exact Nat.lt_of_lt_of_le ((Nat.log2_lt e).2 h) hk
/-! ### texts -/
theorem len_app (a b : Str) : (a ++ b).length = a.length + b.length := by
  show (a.cps ++ b.cps).size = _
  rw [Array.size_append]
  rfl
theorem cps_app (a b : Str) : (a ++ b).cps.toList = a.cps.toList ++ b.cps.toList := by
  show (a.cps ++ b.cps).toList = _
  exact Array.toList_append
theorem len_cut (z : Str) (lo hi : Option Int) : (cutS z lo hi).length ≤ z.length := by
  unfold cutS
  show ((z.cps.toList.drop _).take _).toArray.size ≤ z.cps.size
  rw [List.size_toArray, List.length_take, List.length_drop, Array.length_toList]
  omega
theorem str_len (z : Str) : z.cps.toList.length = z.length := Array.length_toList
/-- an item of a text -/
theorem ixS {K : PySem.W.Frag} {z : Str} {i : Int} {c : Nat} {H : Hp} {Q : VK} (hl : z.length ≤ sizeLine) (e : atI z.cps.toList i = some c) (q : Q (.str ⟨#[c]⟩) H) : rIxU K (.str z) (.int i) H Q := by
  unfold rIxU
  exact .inl (.inr (.inr ⟨z, i, c, rfl, rfl, hl, e, q⟩))
theorem ixSIn {K : PySem.W.Frag} {z : Str} {i : Int} {H : Hp} {Q : VK} (hl : z.length ≤ sizeLine) (h0 : 0 ≤ i) (h1 : i < z.length) (q : ∀ c, c ∈ z.cps.toList → Q (.str ⟨#[c]⟩) H) : rIxU K (.str z) (.int i) H Q := by
  obtain ⟨v, e, m⟩ := atI_in (xs := z.cps.toList) h0 (by rw [str_len]; exact h1)
  exact ixS hl e (q v m)
theorem slS {K : PySem.W.Frag} {z : Str} {lo hi : Option Int} {H : Hp} {Q : VK} (hl : z.length ≤ sizeLine) (q : Q (.str (cutS z lo hi)) H) : rSlU K (.str z) lo hi H Q := by
  unfold rSlU
  exact .inr (.inl ⟨z, rfl, hl, q⟩)
/- one step of a reading; tests that are decided are passed -/
theorem sameOf {H H' : Hp} {l : Addr} {o : HO} (n : H l = none) (h : L2.upd H l o = H') : Same H H' := h ▸ Same.new (Same.refl _) n
theorem atOf {H H' : Hp} {l : Addr} {o : HO} (h : L2.upd H l o = H') : H' l = some o := h ▸ upd_same
theorem butOf {H H' : Hp} {l : Addr} {o : HO} (h : L2.upd H l o = H') : But l H H' := h ▸ But.upd
/- a new object, and what is kept; an object's change -/
theorem _root_.L2.Same.get {H H' : Hp} {a : Addr} {o : HO} (s : Same H H') (h : H a = some o) : H' a = some o := s _ _ h
/- what stood still stands -/
theorem some_ne {H : Hp} {a : Addr} {o : HO} (h : H a = some o) : H a ≠ none := by rw [h]; simp
theorem _root_.L2.Same.getN {H H' : Hp} {a : Addr} (s : Same H H') (h : H a ≠ none) : H' a ≠ none := by
  cases e : H a with
  | none => exact absurd e h
  | some o => rw [s _ _ e]; simp
theorem ne_n {H : Hp} {a b : Addr} (h : H a ≠ none) (n : H b = none) : a ≠ b := fun e => h (e ▸ n)
/- both ways of a test -/
/-- and-chains of truths -/
theorem onB_bl {b : Bool} {Q : Bool → Prop} (h : Q b) : onB (.bl b) Q := h
/-- a list gathered over a text, over a list -/
theorem lcStr {z : Str} (f : Nat → V) {g : TG} {te : TE} {vs : List Nat} {σ : L2.St} {H1 : Hp} {Q : VK} (hz : z.length ≤ 20000)
    (hs : ∀ c H, Same H1 H → ∀ R : VK, (∀ H4, Same H H4 → R (f c) H4) → g (.str ⟨#[c]⟩) (wipe σ vs) H fun σ2 H2 => wipe σ2 vs = wipe σ vs ∧ te σ2 H2 R)
    (hd : ∀ D H, H D = some (.lst (z.cps.toList.map f)) → Same H1 H → Q (.ref D) H) : lcU (Its z) g tYes te vs σ H1 Q := by
  have hn : z.cps.size ≤ 20000 := hz
  refine lcAcc walk_str (fun i => (z.cps.toList.take i).map f) rfl (fun i hi => ?_) (fun _ _ => trivial) (fun i x H H' hi s y R R' r r' => ?_) (fun D H hD s => hd D H ?_ s)
  · rw [sizeLine_eq, List.length_map, List.length_take]; omega
  · obtain ⟨rfl, c, hc, rfl⟩ := y
    have e : (z.cps.toList.take (i + 1)).map f = (z.cps.toList.take i).map f ++ [f c] := by
      rw [List.take_add_one, Array.getElem?_toList, hc, List.map_append]
      rfl
    have q := hs c H' s R fun H4 s4 => r _ _ s4 e
    have ee : (fun σ2 H2 => wipe σ2 vs = wipe σ vs ∧ te σ2 H2 R) = (fun σ2 H2 => wipe σ2 vs = wipe σ vs ∧ tYes σ2 H2 fun b H3 => cnd b (te σ2 H3 R) (R' H3)) := by
      funext σ2 H2
      show _ = (_ ∧ cnd true _ _)
      rw [cnd_t]
    rw [ee] at q
    exact q
  · have e : z.cps.toList.take z.cps.size = z.cps.toList := List.take_of_length_le (by simp)
    rw [e] at hD
    exact hD
theorem lcL {K : PySem.W.Frag} {a : Addr} {xs : List V} (f : V → Option V) {g : TG} {tt : TT} {te : TE} {vs : List Nat} {σ : L2.St} {H1 : Hp} {Q : VK} (hS : SqL K H1 a xs) (hn : xs.length ≤ sizeLine)
    (hs : ∀ x H, x ∈ xs → Same H1 H → ∀ (R : VK) (R' : Hp → Prop), (∀ y H4, Same H H4 → f x = some y → R y H4) → (∀ H4, Same H H4 → f x = none → R' H4) → g x (wipe σ vs) H fun σ2 H2 => wipe σ2 vs = wipe σ vs ∧ tt σ2 H2 fun b H3 => cnd b (te σ2 H3 R) (R' H3))
    (hd : ∀ D H, H D = some (.lst (xs.filterMap f)) → Same H1 H → Q (.ref D) H) : lcU (Itl K a) g tt te vs σ H1 Q := by
  refine lcAcc walk_list (fun i => (xs.take i).filterMap f) rfl (fun i hi => ?_) (fun H s => s.seq hS) (fun i x H H' hi s y R R' r r' => ?_) (fun D H hD s => hd D H ?_ s)
  · have := List.length_filterMap_le f (xs.take i)
    rw [List.length_take] at this
    omega
  · obtain ⟨rfl, hx⟩ := y
    have e : (xs.take (i + 1)).filterMap f = (xs.take i).filterMap f ++ [x].filterMap f := by
      rw [List.take_add_one, hx, List.filterMap_append]
      rfl
    refine hs x H' (List.mem_of_getElem? hx) s R R' (fun y H4 s4 k => r y H4 s4 ?_) (fun H4 s4 k => r' H4 s4 ?_)
    · rw [e]; simp [k]
    · rw [e]; simp [k]
  · rw [List.take_of_length_le (Nat.le_refl _)] at hD
    exact hD
/-- sum, all, any of a list that stands -/
theorem all_bl {l : List Nat} {f : Nat → Bool} : (l.map fun c => V.bl (f c)).all (fun v => v == .bl true) = l.all f := by
  induction l with
  | nil => rfl
  | cons a l ih => rw [List.map_cons, List.all_cons, List.all_cons, ih]; cases f a <;> rfl
/-! ### dicts under a lock -/
theorem walk_valuesT {d : Addr} {o : Obj} {kvs : List (List Key × V)} : Walk (Itdt d o kvs) kvs.length (fun H => H d = some (.frz o (.dT kvs))) (fun i H x H' => H' = H ∧ ∃ k, kvs[i]? = some (k, x)) :=
  ⟨fun _ _ hi q => ⟨q, hi⟩, fun _ q => ⟨q, Nat.le_refl _⟩, fun _ _ _ _ _ _ y => y⟩
theorem walk_itemsT {d : Addr} {o : Obj} {kvs : List (List Key × V)} : Walk (Itit d o kvs) kvs.length (fun H => H d = some (.frz o (.dT kvs)))
    (fun i H x H' => ∃ T k v q, kvs[i]? = some (k, v) ∧ H q = some (.tup (k.map kV)) ∧ x = .ref T ∧ H T = none ∧ H' = L2.upd H T (.tup [.ref q, v])) :=
  ⟨fun _ _ hi q => ⟨q, hi⟩, fun _ q => ⟨q, Nat.le_refl _⟩, fun _ _ _ _ _ _ y => y⟩
theorem walk_enumK {d : Addr} {o : Obj} {kvs : List (Key × V)} : Walk (Itek d o kvs) kvs.length (fun H => H d = some (.frz o (.dK kvs)))
    (fun i H x H' => ∃ T k v, kvs[i]? = some (k, v) ∧ x = .ref T ∧ H T = none ∧ H' = L2.upd H T (.tup [.int (i : Nat), kV k])) :=
  ⟨fun _ _ hi q => ⟨q, hi⟩, fun _ q => ⟨q, Nat.le_refl _⟩, fun _ _ _ _ _ _ y => y⟩
/-- unlocked again -/
theorem unlock {p : Addr} {H HL H' H2 : Hp} {u : HO} (hp : H p = some u) (b : But p H HL) (s : Same HL H') (e : L2.upd H' p u = H2) : Same H H2 := fun x o h => by
  subst e
  by_cases c : x = p
  · rw [c, upd_same, ← hp, ← c, h]
  · rw [upd_ne c]
    exact s _ _ ((b x c).trans h)
/-- the values gathered -/
theorem lcVals {d : Addr} {o : Obj} {kvs : List (Key × V)} {i : Nat} {σ : L2.St} {H1 : Hp} {Q : VK} (hi : i < σ.length) (h : H1 d = some (.frz o (.dK kvs))) (hn : kvs.length ≤ sizeLine)
    (hd : ∀ D H, H D = some (.lst (kvs.map (·.2))) → Same H1 H → Q (.ref D) H) : lcU (Itd d o kvs) (gName i) tYes (tV i) [i] σ H1 Q := by
  refine lcAcc walk_values (fun j => (kvs.take j).map (·.2)) rfl (fun j hj => ?_) (fun H s => s _ _ h) (fun j x H H' hj s y R R' r r' => ?_) (fun D H hD s => hd D H ?_ s)
  · rw [List.length_map, List.length_take]; omega
  · obtain ⟨rfl, k, hk⟩ := y
    refine ⟨?_, ?_⟩
    · show ((σ.set i none).set i _).set i none = σ.set i none
      rw [List.set_set, List.set_set]
    · show cnd true _ _
      rw [cnd_t]
      have hl : ((wipe σ [i]).set i (some x))[i]? = some (some x) := by
        show ((σ.set i none).set i (some x))[i]? = _
        simp [hi]
      show match ((wipe σ [i]).set i (some x))[i]? with | some (some v) => R v H' | _ => False
      rw [hl]
      refine r x H' (Same.refl _) ?_
      show (List.take (j + 1) kvs).map _ = _
      rw [List.take_add_one, hk, List.map_append]
      rfl
  · rw [List.take_of_length_le (Nat.le_refl _)] at hD
    exact hD
theorem lcValsT {d : Addr} {o : Obj} {kvs : List (List Key × V)} {i : Nat} {σ : L2.St} {H1 : Hp} {Q : VK} (hi : i < σ.length) (h : H1 d = some (.frz o (.dT kvs))) (hn : kvs.length ≤ sizeLine)
    (hd : ∀ D H, H D = some (.lst (kvs.map (·.2))) → Same H1 H → Q (.ref D) H) : lcU (Itdt d o kvs) (gName i) tYes (tV i) [i] σ H1 Q := by
  refine lcAcc walk_valuesT (fun j => (kvs.take j).map (·.2)) rfl (fun j hj => ?_) (fun H s => s _ _ h) (fun j x H H' hj s y R R' r r' => ?_) (fun D H hD s => hd D H ?_ s)
  · rw [List.length_map, List.length_take]; omega
  · obtain ⟨rfl, k, hk⟩ := y
    refine ⟨?_, ?_⟩
    · show ((σ.set i none).set i _).set i none = σ.set i none
      rw [List.set_set, List.set_set]
    · show cnd true _ _
      rw [cnd_t]
      have hl : ((wipe σ [i]).set i (some x))[i]? = some (some x) := by
        show ((σ.set i none).set i (some x))[i]? = _
        simp [hi]
      show match ((wipe σ [i]).set i (some x))[i]? with | some (some v) => R v H' | _ => False
      rw [hl]
      refine r x H' (Same.refl _) ?_
      show (List.take (j + 1) kvs).map _ = _
      rw [List.take_add_one, hk, List.map_append]
      rfl
  · rw [List.take_of_length_le (Nat.le_refl _)] at hD
    exact hD
/-- all stays but one -/
def Kp0 (l : Addr) (H H' : Hp) : Prop := ∀ b o, b ≠ l → H b = some o → H' b = some o
theorem Kp0.refl {l : Addr} {H : Hp} : Kp0 l H H := fun _ _ _ h => h
theorem Kp0.trans {l : Addr} {H H1 H2 : Hp} (a : Kp0 l H H1) (b : Kp0 l H1 H2) : Kp0 l H H2 := fun c o n h => b c o n (a c o n h)
theorem Kp0.but {l : Addr} {H H' : Hp} (b : But l H H') : Kp0 l H H' := fun c o n e => (b c n).trans e
theorem Kp0.same {l : Addr} {H H' : Hp} (s : Same H H') : Kp0 l H H' := fun c o n e => s c o e
/-- a list that was read ahead of a new object is read behind it -/
theorem seqK {K : PySem.W.Frag} {H H1 H' : Hp} {p l : Addr} {xs : List V} (h : SqL K H p xs) (n : H l = none) (s : Same H H1) (k : Kp0 l H1 H') : SqL K H' p xs := by
  rcases h with (h | ⟨o, h⟩) | h
  · exact .inl (.inl (k _ _ (ne_of_none h n) (s _ _ h)))
  · exact .inl (.inr ⟨o, k _ _ (ne_of_none h n) (s _ _ h)⟩)
  · exact .inr h
/-! ### == of other things -/
theorem eqSc {K : PySem.W.Frag} {x y : V} {H : Hp} {Q : VK} (h : scal x y = true) (q : Q (.bl (decide (x = y))) H) : rEqO K x y H Q := by
  unfold rEqO
  exact .inl ⟨h, q⟩
theorem neSc {K : PySem.W.Frag} {x y : V} {H : Hp} {Q : VK} (h : scal x y = true) (q : Q (.bl (!decide (x = y))) H) : rNeO K x y H Q := by
  unfold rNeO
  exact .inl ⟨h, q⟩
theorem eqDt {K : PySem.W.Frag} {x y : V} {d e : PyData} {b : Bool} {H : Hp} {Q : VK} (hd : Dp K H x d) (he : Dp K H y e) (sd : SeqAt.shaped d = true) (se : SeqAt.shaped e = true) (eb : PyData.eqv d e = b) (q : Q (.bl b) H) : rEqO K x y H Q := by
  unfold rEqO
  exact .inr (.inl ⟨d, e, hd, he, sd, se, by rw [eb]; exact q⟩)
theorem neDt {K : PySem.W.Frag} {x y : V} {d e : PyData} {b : Bool} {H : Hp} {Q : VK} (hd : Dp K H x d) (he : Dp K H y e) (sd : SeqAt.shaped d = true) (se : SeqAt.shaped e = true) (eb : PyData.eqv d e = b) (q : Q (.bl (!b)) H) : rNeO K x y H Q := by
  unfold rNeO
  exact .inr (.inl ⟨d, e, hd, he, sd, se, by rw [eb]; exact q⟩)
theorem eqId {K : PySem.W.Frag} {x y : V} {H : Hp} {Q : VK} (h : IdT K x y H) (q : Q (.bl true) H) : rEqO K x y H Q := by
  unfold rEqO
  exact .inr (.inr (.inr ⟨h, q⟩))
theorem neId {K : PySem.W.Frag} {x y : V} {H : Hp} {Q : VK} (h : IdT K x y H) (q : Q (.bl false) H) : rNeO K x y H Q := by
  unfold rNeO
  exact .inr (.inr (.inr ⟨h, q⟩))
theorem eqDk {K : PySem.W.Frag} {x y : V} {r : Bool} {H : Hp} {Q : VK} (h : DSame x y H r) (q : Q (.bl r) H) : rEqO K x y H Q := by
  unfold rEqO
  exact .inr (.inr (.inl ⟨r, h, q⟩))
theorem neDk {K : PySem.W.Frag} {x y : V} {r : Bool} {H : Hp} {Q : VK} (h : DSame x y H r) (q : Q (.bl (!r)) H) : rNeO K x y H Q := by
  unfold rNeO
  exact .inr (.inr (.inl ⟨r, h, q⟩))
/-- a list of new objects gathered: what the i-th turn leaves is acc i -/
theorem lcObj {J : It} {n : Nat} {G : Hp → Prop} {Y : Nat → Hp → V → Hp → Prop} (w : Walk J n G Y) {β : Type} (obj : β → HO) (ho : ∀ z xs, obj z ≠ .lst xs) {g : TG} {tt : TT} {te : TE} {vs : List Nat} {σ : L2.St} {H1 : Hp} {Q : VK} (acc : Nat → List β) (ha : acc 0 = []) (hl : ∀ i, i < n → (acc i).length < sizeLine) (hG : ∀ H, Same H1 H → G H)
    (hs : ∀ i x H H', i < n → Same H1 H → Y i H x H' → ∀ (R : VK) (R' : Hp → Prop), (∀ t z H4, Same H H4 → H4 t = some (obj z) → acc (i + 1) = acc i ++ [z] → R (.ref t) H4) → (∀ H4, Same H H4 → acc (i + 1) = acc i → R' H4) →
      g x (wipe σ vs) H' fun σ2 H2 => wipe σ2 vs = wipe σ vs ∧ tt σ2 H2 fun b H3 => cnd b (te σ2 H3 R) (R' H3))
    (hd : ∀ D ts H, H D = some (.lst (ts.map V.ref)) → Same H1 H → Paired (fun t z => H t = some (obj z)) ts (acc n) → Q (.ref D) H) : lcU J g tt te vs σ H1 Q := by
  refine lcIt w fun D hD => ⟨fun i H => Same H1 H ∧ ∃ ts : List Addr, H D = some (.lst (ts.map V.ref)) ∧ Paired (fun t z => H t = some (obj z)) ts (acc i), ⟨Same.new (Same.refl _) hD, [], upd_same, by rw [ha]; exact .nil⟩, fun i H _ p => hG H p.1, fun i x H H' hi p y => ?_, fun H p => ?_⟩
  · obtain ⟨s1, ts, hts, hp⟩ := p
    refine hs i x H H' hi s1 y _ _ (fun t z H4 s et e => ⟨_, s _ _ hts, ?_, Same.upd (fun b u k => s _ _ (s1 b u k)) hD, ts ++ [t], ?_, ?_⟩) (fun H4 s e => ⟨fun b u k => s _ _ (s1 b u k), ts, s _ _ hts, ?_⟩)
    · rw [List.length_map, Paired.length hp]; exact hl i hi
    · rw [upd_same, List.map_append]; rfl
    · rw [e]
      refine Paired.snoc (Paired.mapP hp fun a b hab => ?_) ?_
      · have h2 := s _ _ hab
        rw [upd_ne (fun c => by rw [c, s _ _ hts] at h2; exact ho _ _ (Option.some.inj h2).symm)]
        exact h2
      · rw [upd_ne (fun c => by rw [c, s _ _ hts] at et; exact ho _ _ (Option.some.inj et).symm)]
        exact et
    · rw [e]
      exact Paired.mapP hp fun a b hab => s _ _ hab
  · obtain ⟨s1, ts, hts, hp⟩ := p
    exact hd D ts H hts s1 hp
end Rf
namespace Wk12
open PySem L2 PySem.Spec PyProof.Rows Rf
/-- what an exception's __init__ of one field promises -/
def P_ex1 (K : PySem.W.Frag) (C : Addr) (fld : Str) (a b : V) (H : Hp) (Q : VK) : Prop := ∃ e : Addr, a = .ref e ∧ OexC K C ∧ NoAttr K C fld ∧ H e = some (exo e C none) ∧ ∀ dx H', H dx = none → dx ≠ e → upd (upd H dx (exd dx [(fld, b)])) e (exo e C (some dx)) = H' → Q .non H'
def P_ex2 (K : PySem.W.Frag) (C : Addr) (f1 f2 : Str) (a b c : V) (H : Hp) (Q : VK) : Prop := ∃ e : Addr, a = .ref e ∧ OexC K C ∧ NoAttr K C f1 ∧ NoAttr K C f2 ∧ H e = some (exo e C none) ∧ ∀ dx H', H dx = none → dx ≠ e → upd (upd (upd H dx (exd dx [(f1, b)])) e (exo e C (some dx))) dx (exd dx [(f2, c), (f1, b)]) = H' → Q .non H'
abbrev errsL : Errs := [("NoName", ["found"]), ("NoWeight", ["found"]), ("NoStrength", ["found"]), ("NoPlace", ["found"]), ("Same", ["found"]), ("Taken", ["found"]), ("NoTie", ["one", "other"]), ("Tied", ["one", "other"]), ("TooMany", ["many"]), ("Beyond", ["many"])]
abbrev testsL : List Str := ["NoName", "NoWeight", "NoStrength", "NoPlace", "Same", "Taken", "NoTie", "Tied", "TooMany", "Beyond"]
abbrev EK (K : PySem.W.Frag) : Prop := ErrK K errsL testsL
def P_NoName_init (K : PySem.W.Frag) (a b : V) (H : Hp) (Q : VK) (E : XK) : Prop := P_ex1 K (He.ga K "NoName") "found" a b H Q
def P_NoWeight_init (K : PySem.W.Frag) (a b : V) (H : Hp) (Q : VK) (E : XK) : Prop := P_ex1 K (He.ga K "NoWeight") "found" a b H Q
def P_NoStrength_init (K : PySem.W.Frag) (a b : V) (H : Hp) (Q : VK) (E : XK) : Prop := P_ex1 K (He.ga K "NoStrength") "found" a b H Q
def P_NoPlace_init (K : PySem.W.Frag) (a b : V) (H : Hp) (Q : VK) (E : XK) : Prop := P_ex1 K (He.ga K "NoPlace") "found" a b H Q
def P_Same_init (K : PySem.W.Frag) (a b : V) (H : Hp) (Q : VK) (E : XK) : Prop := P_ex1 K (He.ga K "Same") "found" a b H Q
def P_Taken_init (K : PySem.W.Frag) (a b : V) (H : Hp) (Q : VK) (E : XK) : Prop := P_ex1 K (He.ga K "Taken") "found" a b H Q
def P_NoTie_init (K : PySem.W.Frag) (a b c : V) (H : Hp) (Q : VK) (E : XK) : Prop := P_ex2 K (He.ga K "NoTie") "one" "other" a b c H Q
def P_Tied_init (K : PySem.W.Frag) (a b c : V) (H : Hp) (Q : VK) (E : XK) : Prop := P_ex2 K (He.ga K "Tied") "one" "other" a b c H Q
def P_TooMany_init (K : PySem.W.Frag) (a b : V) (H : Hp) (Q : VK) (E : XK) : Prop := P_ex1 K (He.ga K "TooMany") "many" a b H Q
def P_Beyond_init (K : PySem.W.Frag) (a b : V) (H : Hp) (Q : VK) (E : XK) : Prop := P_ex1 K (He.ga K "Beyond") "many" a b H Q
/-- a whole number from lo to hi -/
def wholeV (v : V) (lo hi : Int) : Bool := match v with
  | .int i => decide (lo ≤ i) && decide (i ≤ hi)
  | _ => false
def P_is_whole (K : PySem.W.Frag) (a b c : V) (H : Hp) (Q : VK) (E : XK) : Prop := ∃ (t : String) (lo hi : Int), TyN K H a t ∧ b = .int lo ∧ c = .int hi ∧ Q (.bl (wholeV a lo hi)) H
def nameS (z : Str) : Bool := decide (1 ≤ z.length) && decide (z.length ≤ 8) && z.cps.toList.all fun c => decide (97 ≤ c) && decide (c ≤ 122)
def nameV (v : V) : Bool := match v with
  | .str z => nameS z
  | _ => false
def P_is_name (K : PySem.W.Frag) (a : V) (H : Hp) (Q : VK) (E : XK) : Prop := ∃ (t : String), TyN K H a t ∧ (∀ z, a = .str z → z.length ≤ 20000) ∧ ∀ H', Same H H' → Q (.bl (nameV a)) H'
/-! ### what a web is -/
section
variable {α κ : Type} [DecidableEq α] [DecidableEq κ]
def getA (l : List (α × Int)) (k : α) : Option Int := (l.find? fun p => decide (p.1 = k)).map (·.2)
def putA (l : List (α × Int)) (k : α) (v : Int) : List (α × Int) := if (l.any fun p => decide (p.1 = k)) = true then l.map (fun p => if p.1 = k then (p.1, v) else p) else l ++ [(k, v)]
def dropA (l : List (α × Int)) (k : α) : List (α × Int) := l.filter fun p => decide (p.1 ≠ k)
def emb (f : α → κ) (l : List (α × Int)) : List (κ × V) := l.map fun p => (f p.1, V.int p.2)
end
def kS : Str → Key := Sum.inr
def kP (p : Str × Str) : List Key := [Sum.inr p.1, Sum.inr p.2]
structure WebS where
  hv : List (Str × Int)
  kn : List ((Str × Str) × Int)
abbrev wC (K : PySem.W.Frag) : Addr := He.ga K "Web"
structure WebK (K : PySem.W.Frag) : Prop where
  cls : Cls K (wC K)
  nh : NoAttr K (wC K) "heavy"
  nk : NoAttr K (wC K) "knots"
def webF (p q : Addr) : List (Str × V) := [("heavy", .ref p), ("knots", .ref q)]
structure WebO (K : PySem.W.Frag) (H : Hp) (a p q : Addr) (W : WebS) : Prop where
  k : WebK K
  o : ∃ dx, H a = some (.ins (wC K) dx (webF p q))
  hv : H p = some (.dK (emb kS W.hv))
  kn : H q = some (.dT (emb kP W.kn))
/-- .. to be read: its dicts may be locked -/
structure WebR (K : PySem.W.Frag) (H : Hp) (a p q : Addr) (W : WebS) : Prop where
  k : WebK K
  o : ∃ dx, H a = some (.ins (wC K) dx (webF p q))
  hv : Rd H p (.dK (emb kS W.hv))
  kn : Rd H q (.dT (emb kP W.kn))
theorem WebO.r {K : PySem.W.Frag} {H : Hp} {a p q : Addr} {W : WebS} (h : WebO K H a p q W) : WebR K H a p q W := ⟨h.k, h.o, .inl h.hv, .inl h.kn⟩
/-- all stays but what stands at S -/
def Kx (S : List Addr) (H H' : Hp) : Prop := ∀ b o, b ∉ S → H b = some o → H' b = some o
/-- the tie of two places, as it was tied -/
def knotW (W : WebS) (x y : Str) : Option (Str × Str) := if (getA W.kn (x, y)).isSome then some (x, y) else if (getA W.kn (y, x)).isSome then some (y, x) else none
def totalW (W : WebS) : Int := (W.hv.map Prod.snd).sum
def forceW (W : WebS) : Int := (W.kn.map Prod.snd).sum
def P_Web_total (K : PySem.W.Frag) (a : V) (H : Hp) (Q : VK) (E : XK) : Prop := ∃ (x p q : Addr) (W : WebS), a = .ref x ∧ WebO K H x p q W ∧ W.hv.length ≤ 1000 ∧ ∀ H', Same H H' → Q (.int (totalW W)) H'
def P_Web_force (K : PySem.W.Frag) (a : V) (H : Hp) (Q : VK) (E : XK) : Prop := ∃ (x p q : Addr) (W : WebS), a = .ref x ∧ WebO K H x p q W ∧ W.kn.length ≤ 1000 ∧ ∀ H', Same H H' → Q (.int (forceW W)) H'
/-- a place of the web -/
def isPl (W : WebS) (n : Str) : Prop := (getA W.hv n).isSome = true
/-- what is refused: the class, the fields -/
abbrev RefO := Option (Str × List (Str × V))
def placeO (W : WebS) (b : V) : RefO := match b with
  | .str n => if (getA W.hv n).isSome = true then none else some ("NoPlace", [("found", .str n)])
  | b => some ("NoPlace", [("found", b)])
def twoO (W : WebS) (b c : V) : RefO := match placeO W b with
  | some r => some r
  | none => match placeO W c with
    | some r => some r
    | none => if b = c then some ("Same", [("found", b)]) else none
def knotO (W : WebS) (b c : V) : Option (Str × Str) := match b, c with
  | .str n, .str m => knotW W n m
  | _, _ => none
def needTieO (W : WebS) (b c : V) : RefO := match twoO W b c with
  | some r => some r
  | none => match knotO W b c with
    | none => some ("NoTie", [("other", c), ("one", b)])
    | some _ => none
def weightO (c : V) : RefO := if wholeV c 1 1000000000 = true then none else some ("NoWeight", [("found", c)])
def Rz (K : PySem.W.Frag) (E : XK) (H : Hp) (r : Str × List (Str × V)) : Prop := ∀ d H', H d = none → Same H H' → H' d = some (.xd r.2) → E (.ref (He.ga K r.1)) (some d) H'
def P_Web_need_place (K : PySem.W.Frag) (a b : V) (H : Hp) (Q : VK) (E : XK) : Prop := ∃ (x p q : Addr) (W : WebS) (t : String), a = .ref x ∧ EK K ∧ WebR K H x p q W ∧ TyN K H b t ∧ (∀ r, placeO W b = some r → Rz K E H r) ∧ (placeO W b = none → Q .non H)
def P_Web_need_two (K : PySem.W.Frag) (a b c : V) (H : Hp) (Q : VK) (E : XK) : Prop := ∃ (x p q : Addr) (W : WebS) (t u : String), a = .ref x ∧ EK K ∧ WebR K H x p q W ∧ TyN K H b t ∧ TyN K H c u ∧ (∀ r, twoO W b c = some r → Rz K E H r) ∧ (twoO W b c = none → Q .non H)
def P_Web_knot (K : PySem.W.Frag) (a b c : V) (H : Hp) (Q : VK) (E : XK) : Prop := ∃ (x p q : Addr) (W : WebS) (n m : Str), a = .ref x ∧ WebR K H x p q W ∧ b = .str n ∧ c = .str m ∧
  (∀ T u v H', knotW W n m = some (u, v) → Same H H' → H' T = some (.tup [.str u, .str v]) → Q (.ref T) H') ∧ (∀ H', knotW W n m = none → Same H H' → Q .non H')
def P_Web_need_tie (K : PySem.W.Frag) (a b c : V) (H : Hp) (Q : VK) (E : XK) : Prop := ∃ (x p q : Addr) (W : WebS) (t u : String), a = .ref x ∧ EK K ∧ WebR K H x p q W ∧ TyN K H b t ∧ TyN K H c u ∧ (∀ r, needTieO W b c = some r → Rz K E H r) ∧
  ∀ n m u v T H', b = .str n → c = .str m → twoO W b c = none → knotW W n m = some (u, v) → Same H H' → H' T = some (.tup [.str u, .str v]) → Q (.ref T) H'
def P_Web_need_weight (K : PySem.W.Frag) (a b : V) (H : Hp) (Q : VK) (E : XK) : Prop := ∃ (t : String), EK K ∧ TyN K H b t ∧ (∀ r, weightO b = some r → Rz K E H r) ∧ (weightO b = none → Q .non H)
def putO (W : WebS) (b c : V) : RefO := if nameV b = false then some ("NoName", [("found", b)]) else match weightO c with
  | some r => some r
  | none => match b, c with
    | .str n, .int w => if (getA W.hv n).isSome = true then some ("Taken", [("found", b)]) else if 60 ≤ W.hv.length then some ("TooMany", [("many", .int 61)]) else if 1000000000 < totalW W + w then some ("Beyond", [("many", .int (totalW W + w))]) else none
    | _, _ => none
def P_Web_put (K : PySem.W.Frag) (a b c : V) (H : Hp) (Q : VK) (E : XK) : Prop := ∃ (x p q : Addr) (W : WebS) (t u : String), a = .ref x ∧ EK K ∧ WebO K H x p q W ∧ TyN K H b t ∧ TyN K H c u ∧ (∀ z, b = .str z → z.length ≤ 20000) ∧ W.hv.length ≤ 1000 ∧
  (∀ r H', Same H H' → putO W b c = some r → Rz K E H' r) ∧ ∀ n w, b = .str n → c = .int w → putO W b c = none → ∀ H', Kx [p] H H' → H' p = some (.dK (emb kS (putA W.hv n w))) → Q .non H'
def weighO (W : WebS) (b c : V) : RefO := match placeO W b with
  | some r => some r
  | none => match weightO c with
    | some r => some r
    | none => match b, c with
      | .str n, .int w => if 1000000000 < totalW W - (getA W.hv n).getD 0 + w then some ("Beyond", [("many", .int (totalW W - (getA W.hv n).getD 0 + w))]) else none
      | _, _ => none
def P_Web_weigh (K : PySem.W.Frag) (a b c : V) (H : Hp) (Q : VK) (E : XK) : Prop := ∃ (x p q : Addr) (W : WebS) (t u : String), a = .ref x ∧ EK K ∧ WebO K H x p q W ∧ TyN K H b t ∧ TyN K H c u ∧ W.hv.length ≤ 1000 ∧
  (∀ r H', Same H H' → weighO W b c = some r → Rz K E H' r) ∧ ∀ n w, b = .str n → c = .int w → weighO W b c = none → ∀ H', Kx [p] H H' → H' p = some (.dK (emb kS (putA W.hv n w))) → Q .non H'
/-- how strong two places are tied -/
def tieW (W : WebS) (n m : Str) : Int := match knotW W n m with
  | some k => (getA W.kn k).getD 0
  | none => 0
def strO (c : V) : RefO := if wholeV c 1 1000000000 = true then none else some ("NoStrength", [("found", c)])
def tieO (W : WebS) (b c d : V) : RefO := match twoO W b c with
  | some r => some r
  | none => match strO d with
    | some r => some r
    | none => match b, c, d with
      | .str n, .str m, .int w => if (knotW W n m).isSome = true then some ("Tied", [("other", c), ("one", b)]) else if 200 ≤ W.kn.length then some ("TooMany", [("many", .int 201)]) else if 1000000000 < forceW W + w then some ("Beyond", [("many", .int (forceW W + w))]) else none
      | _, _, _ => none
def P_Web_tie (K : PySem.W.Frag) (a b c d : V) (H : Hp) (Q : VK) (E : XK) : Prop := ∃ (x p q : Addr) (W : WebS) (t u v : String), a = .ref x ∧ EK K ∧ WebO K H x p q W ∧ TyN K H b t ∧ TyN K H c u ∧ TyN K H d v ∧ W.kn.length ≤ 1000 ∧
  (∀ r H', Same H H' → tieO W b c d = some r → Rz K E H' r) ∧ ∀ n m w, b = .str n → c = .str m → d = .int w → tieO W b c d = none → ∀ H', Kx [q] H H' → H' q = some (.dT (emb kP (putA W.kn (n, m) w))) → Q .non H'
def moreO (W : WebS) (b c d : V) : RefO := match needTieO W b c with
  | some r => some r
  | none => match b, c, d with
    | .str n, .str m, .int w => if wholeV d (-1000000000) 1000000000 = false ∨ tieW W n m + w < 1 then some ("NoStrength", [("found", d)]) else if 1000000000 < forceW W + w then some ("Beyond", [("many", .int (forceW W + w))]) else none
    | _, _, d => some ("NoStrength", [("found", d)])
def P_Web_more (K : PySem.W.Frag) (a b c d : V) (H : Hp) (Q : VK) (E : XK) : Prop := ∃ (x p q : Addr) (W : WebS) (t u v : String), a = .ref x ∧ EK K ∧ WebO K H x p q W ∧ TyN K H b t ∧ TyN K H c u ∧ TyN K H d v ∧ W.kn.length ≤ 1000 ∧
  (∀ r H', Same H H' → moreO W b c d = some r → Rz K E H' r) ∧ ∀ n m k w, b = .str n → c = .str m → d = .int w → knotW W n m = some k → moreO W b c d = none → ∀ H', Kx [q] H H' → H' q = some (.dT (emb kP (putA W.kn k (tieW W n m + w)))) → Q .non H'
def P_Web_untie (K : PySem.W.Frag) (a b c : V) (H : Hp) (Q : VK) (E : XK) : Prop := ∃ (x p q : Addr) (W : WebS) (t u : String), a = .ref x ∧ EK K ∧ WebO K H x p q W ∧ TyN K H b t ∧ TyN K H c u ∧ (∀ r H', Same H H' → needTieO W b c = some r → Rz K E H' r) ∧
  ∀ n m k, b = .str n → c = .str m → knotW W n m = some k → needTieO W b c = none → ∀ H', Kx [q] H H' → H' q = some (.dT (emb kP (dropA W.kn k))) → Q .non H'
def P_Web_names (K : PySem.W.Frag) (a : V) (H : Hp) (Q : VK) (E : XK) : Prop := ∃ (x p q : Addr) (W : WebS), a = .ref x ∧ WebO K H x p q W ∧ ∀ l H', H l = none → Same H H' → H' l = some (.lst (W.hv.map fun e => V.str e.1)) → Q (.ref l) H'
def P_Web_weight (K : PySem.W.Frag) (a b : V) (H : Hp) (Q : VK) (E : XK) : Prop := ∃ (x p q : Addr) (W : WebS) (t : String), a = .ref x ∧ EK K ∧ WebR K H x p q W ∧ TyN K H b t ∧ (∀ r, placeO W b = some r → Rz K E H r) ∧ ∀ n w, b = .str n → getA W.hv n = some w → Q (.int w) H
def bothO (W : WebS) (b c : V) : RefO := match placeO W b with
  | some r => some r
  | none => placeO W c
def P_Web_strength (K : PySem.W.Frag) (a b c : V) (H : Hp) (Q : VK) (E : XK) : Prop := ∃ (x p q : Addr) (W : WebS) (t u : String), a = .ref x ∧ EK K ∧ WebR K H x p q W ∧ TyN K H b t ∧ TyN K H c u ∧ (∀ r, bothO W b c = some r → Rz K E H r) ∧
  ∀ n m, b = .str n → c = .str m → bothO W b c = none → ∀ H', Same H H' → Q (.int (tieW W n m)) H'
def P_Web_init (K : PySem.W.Frag) (a : V) (H : Hp) (Q : VK) (E : XK) : Prop := ∃ (x dx : Addr), a = .ref x ∧ WebK K ∧ H x = some (.ins (wC K) dx []) ∧ ∀ p q H', H p = none → H q = none → WebO K H' x p q ⟨[], []⟩ → Kx [x] H H' → Q .non H'
def touch (n : Str) (e : (Str × Str) × Int) : Bool := decide (n = e.1.1) || decide (n = e.1.2)
def P_Web_drop (K : PySem.W.Frag) (a b : V) (H : Hp) (Q : VK) (E : XK) : Prop := ∃ (x p q : Addr) (W : WebS) (t : String), a = .ref x ∧ EK K ∧ WebO K H x p q W ∧ TyN K H b t ∧ (W.kn.map Prod.fst).Nodup ∧ W.kn.length ≤ 200 ∧ (∀ r, placeO W b = some r → Rz K E H r) ∧
  ∀ n, b = .str n → isPl W n → ∀ H', Kx [p, q] H H' → H' p = some (.dK (emb kS (dropA W.hv n))) → H' q = some (.dT (emb kP (W.kn.filter fun e => !touch n e))) → Q .non H'
/-- the places to which a place is tied, and how strong -/
def nearA (W : WebS) (n : Str) (l : List (Str × Int)) : List (Str × Int) := l.filterMap fun e => if 0 < tieW W n e.1 then some (e.1, tieW W n e.1) else none
def P_Web_near (K : PySem.W.Frag) (a b : V) (H : Hp) (Q : VK) (E : XK) : Prop := ∃ (x p q : Addr) (W : WebS) (t : String), a = .ref x ∧ EK K ∧ WebO K H x p q W ∧ TyN K H b t ∧ (W.hv.map Prod.fst).Nodup ∧ W.hv.length ≤ 60 ∧ (∀ r, placeO W b = some r → Rz K E H r) ∧
  ∀ n, b = .str n → isPl W n → ∀ f H', H f = none → Same H H' → H' f = some (.dK (emb kS (nearA W n W.hv))) → Q (.ref f) H'
/-- the place's number in the web's order -/
def rankA (l : List (Str × Int)) (n : Str) : Nat := l.findIdx fun e => decide (e.1 = n)
/-- the ties as they are told -/
def tieT (W : WebS) (e : (Str × Str) × Int) : (Str × Str) × Int := if rankA W.hv e.1.1 < rankA W.hv e.1.2 then e else ((e.1.2, e.1.1), e.2)
def isTie (H : Hp) (t : Addr) (e : (Str × Str) × Int) : Prop := H t = some (.tup [.str e.1.1, .str e.1.2, .int e.2])
def P_Web_ties (K : PySem.W.Frag) (a : V) (H : Hp) (Q : VK) (E : XK) : Prop := ∃ (x p q : Addr) (W : WebS), a = .ref x ∧ WebO K H x p q W ∧ (W.hv.map Prod.fst).Nodup ∧ W.hv.length ≤ 60 ∧ W.kn.length ≤ 200 ∧ (∀ e ∈ W.kn, isPl W e.1.1 ∧ isPl W e.1.2) ∧
  ∀ l ts H', H l = none → Same H H' → H' l = some (.lst (ts.map V.ref)) → Paired (isTie H') ts (W.kn.map (tieT W)) → Q (.ref l) H'
/-- a refusal and how the law names it -/
inductive RefW : Str × List (Str × V) → List V → Prop
  | name (v : V) : RefW ("NoName", [("found", v)]) [.str "name", v]
  | weight (v : V) : RefW ("NoWeight", [("found", v)]) [.str "weight", v]
  | strength (v : V) : RefW ("NoStrength", [("found", v)]) [.str "strength", v]
  | place (v : V) : RefW ("NoPlace", [("found", v)]) [.str "place", v]
  | notie (v w : V) : RefW ("NoTie", [("other", w), ("one", v)]) [.str "notie", v, w]
  | same (v : V) : RefW ("Same", [("found", v)]) [.str "same", v]
  | taken (v : V) : RefW ("Taken", [("found", v)]) [.str "taken", v]
  | tied (v w : V) : RefW ("Tied", [("other", w), ("one", v)]) [.str "tied", v, w]
  | many (v : V) : RefW ("TooMany", [("many", v)]) [.str "many", v]
  | beyond (v : V) : RefW ("Beyond", [("many", v)]) [.str "beyond", v]
def P_hot_l_named (K : PySem.W.Frag) (a : Addr) (c : Value) (d : Option Addr) (e : V) (H : Hp) (Q : VK) (E : XK) : Prop := ∃ (r : Str × List (Str × V)) (tv : List V) (dd : Addr), e = .ref a ∧ EK K ∧ RefW r tv ∧ c = .ref (He.ga K r.1) ∧ d = some dd ∧ H dd = some (.xd r.2) ∧
  ∀ T H', Same H H' → H' T = some (.tup tv) → Q (.ref T) H'
inductive DeedV where
  | put (b c : V) | weigh (b c : V) | drop (b : V) | tie (b c d : V) | more (b c d : V) | untie (b c : V)
def deedT : DeedV → List V
  | .put b c => [.str "put", b, c]
  | .weigh b c => [.str "weigh", b, c]
  | .drop b => [.str "drop", b]
  | .tie b c d => [.str "tie", b, c, d]
  | .more b c d => [.str "more", b, c, d]
  | .untie b c => [.str "untie", b, c]
def doneO (W : WebS) : DeedV → RefO
  | .put b c => putO W b c
  | .weigh b c => weighO W b c
  | .drop b => placeO W b
  | .tie b c d => tieO W b c d
  | .more b c d => moreO W b c d
  | .untie b c => needTieO W b c
def newW (W : WebS) : DeedV → WebS
  | .put (.str n) (.int w) => ⟨putA W.hv n w, W.kn⟩
  | .weigh (.str n) (.int w) => ⟨putA W.hv n w, W.kn⟩
  | .drop (.str n) => ⟨dropA W.hv n, W.kn.filter fun e => !touch n e⟩
  | .tie (.str n) (.str m) (.int w) => ⟨W.hv, putA W.kn (n, m) w⟩
  | .more (.str n) (.str m) (.int w) => (match knotW W n m with
    | some k => ⟨W.hv, putA W.kn k (tieW W n m + w)⟩
    | none => W)
  | .untie (.str n) (.str m) => (match knotW W n m with
    | some k => ⟨W.hv, dropA W.kn k⟩
    | none => W)
  | _ => W
/-- a thing that may be handed in -/
def AnyV (K : PySem.W.Frag) (H : Hp) (v : V) : Prop := (∃ t, TyN K H v t) ∧ ∀ z, v = .str z → z.length ≤ 20000
@[irreducible] def P_l_done (K : PySem.W.Frag) (a b : V) (H : Hp) (Q : VK) (E : XK) : Prop := ∃ (x p q td : Addr) (W : WebS) (dv : DeedV), a = .ref x ∧ EK K ∧ WebO K H x p q W ∧ b = .ref td ∧ H td = some (.tup (deedT dv)) ∧ (∀ v ∈ deedT dv, AnyV K H v) ∧ W.hv.length ≤ 1000 ∧ W.kn.length ≤ 200 ∧ (W.kn.map Prod.fst).Nodup ∧
  (∀ r tv T H', doneO W dv = some r → RefW r tv → Same H H' → H' T = some (.tup tv) → Q (.ref T) H') ∧ (∀ H', doneO W dv = none → Kx [p, q] H H' → WebO K H' x p q (newW W dv) → Q .non H')
/-- what the law says of what was told and what was due: both are the same -/
def P_l_alike (K : PySem.W.Frag) (a b : V) (H : Hp) (Q : VK) (E : XK) : Prop := (a = .non ∧ b = .non ∧ ∀ H', Same H H' → Q (.bl true) H') ∨ ∃ (x y : Addr) (vs : List V) (v : V) (t : String), a = .ref x ∧ b = .ref y ∧ H x = some (.tup (vs ++ [v])) ∧ H y = some (.tup (vs ++ [v])) ∧
  (vs ++ [v]).all okI = true ∧ TyN K H v t ∧ ∀ H', Same H H' → Q (.bl true) H'
structure StO (H : Hp) (s d0 d1 : Addr) (W : WebS) : Prop where
  s : H s = some (.lst [.ref d0, .ref d1])
  hv : H d0 = some (.dK (emb kS W.hv))
  kn : H d1 = some (.dT (emb kP W.kn))
def oneWay (W : WebS) : Prop := ∀ u v, (getA W.kn (u, v)).isSome = true → (getA W.kn (v, u)).isSome = true → u = v
def okN (W : WebS) : Prop := (∀ e ∈ W.hv, PyData.strOk e.1 = true) ∧ ∀ e ∈ W.kn, PyData.strOk e.1.1 = true ∧ PyData.strOk e.1.2 = true
def P_l_tied (K : PySem.W.Frag) (a b c : V) (H : Hp) (Q : VK) (E : XK) : Prop := ∃ (s d0 d1 : Addr) (W : WebS) (n m : Str), a = .ref s ∧ StO H s d0 d1 W ∧ b = .str n ∧ c = .str m ∧ oneWay W ∧ PyData.strOk n = true ∧ PyData.strOk m = true ∧ okN W ∧
  (∀ T u v H', knotW W n m = some (u, v) → Same H H' → H' T = some (.tup [.str u, .str v]) → Q (.ref T) H') ∧ (∀ H', knotW W n m = none → Same H H' → Q .non H')
inductive Deed where
  | put (n : Str) (w : Int)
  | weigh (n : Str) (w : Int)
  | drop (n : Str)
  | tie (n m : Str) (w : Int)
  | more (n m : Str) (w : Int)
  | untie (n m : Str)
def dV : Deed → List V
  | .put n w => [.str "put", .str n, .int w]
  | .weigh n w => [.str "weigh", .str n, .int w]
  | .drop n => [.str "drop", .str n]
  | .tie n m w => [.str "tie", .str n, .str m, .int w]
  | .more n m w => [.str "more", .str n, .str m, .int w]
  | .untie n m => [.str "untie", .str n, .str m]
def doneW (W : WebS) : Deed → WebS
  | .put n w => ⟨putA W.hv n w, W.kn⟩
  | .weigh n w => ⟨putA W.hv n w, W.kn⟩
  | .drop n => ⟨dropA W.hv n, W.kn.filter fun e => !touch n e⟩
  | .tie n m w => ⟨W.hv, putA W.kn (n, m) w⟩
  | .more n m w => match knotW W n m with
    | some k => ⟨W.hv, putA W.kn k ((getA W.kn k).getD 0 + w)⟩
    | none => W
  | .untie n m => match knotW W n m with
    | some k => ⟨W.hv, dropA W.kn k⟩
    | none => W
def fitsD (W : WebS) : Deed → Prop
  | .put n w => True
  | .weigh n w => True
  | .drop n => isPl W n
  | .tie n m w => True
  | .more n m w => (knotW W n m).isSome = true
  | .untie n m => (knotW W n m).isSome = true
def okD : Deed → Prop
  | .more n m _ => PyData.strOk n = true ∧ PyData.strOk m = true
  | .untie n m => PyData.strOk n = true ∧ PyData.strOk m = true
  | _ => True
def P_l_apply (K : PySem.W.Frag) (a b : V) (H : Hp) (Q : VK) (E : XK) : Prop := ∃ (s d0 d1 T : Addr) (W : WebS) (d : Deed), a = .ref s ∧ StO H s d0 d1 W ∧ b = .ref T ∧ H T = some (.tup (dV d)) ∧ fitsD W d ∧ oneWay W ∧ (okN W ∧ okD d) ∧ (W.kn.map Prod.fst).Nodup ∧ W.hv.length ≤ 100 ∧ W.kn.length ≤ 200 ∧
  ∀ H', Kx [d0, d1] H H' → H' d0 = some (.dK (emb kS (doneW W d).hv)) → H' d1 = some (.dT (emb kP (doneW W d).kn)) → Q .non H'
def P_l_ties (K : PySem.W.Frag) (a : V) (H : Hp) (Q : VK) (E : XK) : Prop := ∃ (s d0 d1 : Addr) (W : WebS), a = .ref s ∧ StO H s d0 d1 W ∧ (W.hv.map Prod.fst).Nodup ∧ W.hv.length ≤ 60 ∧ W.kn.length ≤ 200 ∧ (∀ e ∈ W.kn, isPl W e.1.1 ∧ isPl W e.1.2) ∧
  ∀ l ts H', H l = none → Same H H' → H' l = some (.lst (ts.map V.ref)) → Paired (isTie H') ts (W.kn.map (tieT W)) → Q (.ref l) H'
structure WOk (W : WebS) : Prop where
  nh : (W.hv.map Prod.fst).Nodup
  nk : (W.kn.map Prod.fst).Nodup
  lh : W.hv.length ≤ 60
  lk : W.kn.length ≤ 200
  ends : ∀ e ∈ W.kn, isPl W e.1.1 ∧ isPl W e.1.2
  ow : oneWay W
  ok : okN W
  pos : ∀ e ∈ W.kn, 1 ≤ e.2
  ne : ∀ e ∈ W.kn, e.1.1 ≠ e.1.2
def P_l_shows (K : PySem.W.Frag) (a b : V) (H : Hp) (Q : VK) (E : XK) : Prop := ∃ (x p q s d0 d1 : Addr) (W : WebS), a = .ref x ∧ EK K ∧ WebO K H x p q W ∧ b = .ref s ∧ StO H s d0 d1 W ∧ WOk W ∧ ∀ H', Same H H' → Q (.bl true) H'
/-! use: C_exc C_err12 C_name C_webr C_data C_done C_st -/
def AnyW (K : PySem.W.Frag) (H : Hp) (v : V) : Prop := AnyV K H v ∧ ∀ z, v = .str z → PyData.strOk z = true
def P_l_row (K : PySem.W.Frag) (a b : V) (H : Hp) (Q : VK) (E : XK) : Prop := ∃ (p : Addr) (c : Int) (ms : List Int), a = .int c ∧ b = .ref p ∧ SqL K H p (ms.map V.int) ∧ ms.length ≤ 20 ∧ (∀ m ∈ ms, 1 ≤ m ∧ m < 2 ^ 40) ∧
  ∀ l (xs : List Int) H', H l = none → Same H H' → H' l = some (.lst (xs.map V.int)) → xs.length = ms.length → (∀ (i : Nat) (x m : Int), xs[i]? = some x → ms[i]? = some m → 0 ≤ x ∧ x < m) → Q (.ref l) H'
def P_l_is_name (K : PySem.W.Frag) (a : V) (H : Hp) (Q : VK) (E : XK) : Prop := ∃ (t : String), TyN K H a t ∧ (∀ z, a = .str z → z.length ≤ 20000 ∧ PyData.strOk z = true) ∧ ∀ H', Same H H' → Q (.bl (nameV a)) H'
def P_l_is_whole (K : PySem.W.Frag) (a b c : V) (H : Hp) (Q : VK) (E : XK) : Prop := ∃ (t : String) (lo hi : Int), TyN K H a t ∧ b = .int lo ∧ c = .int hi ∧ Q (.bl (wholeV a lo hi)) H
def P_l_name (K : PySem.W.Frag) (a : V) (H : Hp) (Q : VK) (E : XK) : Prop := ∃ (k : Int), a = .int k ∧ ∀ (z : Str) H', z.length ≤ 8 → PyData.strOk z = true → Same H H' → Q (.str z) H'
def P_l_odd (K : PySem.W.Frag) (a : V) (H : Hp) (Q : VK) (E : XK) : Prop := ∃ (k : Int), a = .int k ∧ ∀ v H', Same H H' → AnyW K H' v → Q v H'
def P_l_number (K : PySem.W.Frag) (a : V) (H : Hp) (Q : VK) (E : XK) : Prop := ∃ (p : Addr) (i j : Int), a = .ref p ∧ SqL K H p [.int i, .int j] ∧ 0 ≤ j ∧ j < 14 ∧ ∀ v H', Same H H' → AnyW K H' v → Q v H'
/-- a fault told, or none -/
def FQ (o : RefO) (H : Hp) (Q : VK) : Prop := (∀ r tv T H', o = some r → RefW r tv → Same H H' → H' T = some (.tup tv) → Q (.ref T) H') ∧ ∀ H', o = none → Same H H' → Q .non H'
def P_l_two_fault (K : PySem.W.Frag) (a b c : V) (H : Hp) (Q : VK) (E : XK) : Prop := ∃ (s d0 d1 : Addr) (W : WebS) (t u : String), a = .ref s ∧ StO H s d0 d1 W ∧ TyN K H b t ∧ TyN K H c u ∧ FQ (twoO W b c) H Q
def P_l_put_fault (K : PySem.W.Frag) (a b c : V) (H : Hp) (Q : VK) (E : XK) : Prop := ∃ (s d0 d1 : Addr) (W : WebS) (t u : String), a = .ref s ∧ StO H s d0 d1 W ∧ TyN K H b t ∧ TyN K H c u ∧ (∀ z, b = .str z → z.length ≤ 20000 ∧ PyData.strOk z = true) ∧ W.hv.length ≤ 1000 ∧ FQ (putO W b c) H Q
def P_l_weigh_fault (K : PySem.W.Frag) (a b c : V) (H : Hp) (Q : VK) (E : XK) : Prop := ∃ (s d0 d1 : Addr) (W : WebS) (t u : String), a = .ref s ∧ StO H s d0 d1 W ∧ TyN K H b t ∧ TyN K H c u ∧ W.hv.length ≤ 1000 ∧ FQ (weighO W b c) H Q
def P_l_tie_fault (K : PySem.W.Frag) (a b c d : V) (H : Hp) (Q : VK) (E : XK) : Prop := ∃ (s d0 d1 : Addr) (W : WebS) (t u v : String), a = .ref s ∧ StO H s d0 d1 W ∧ TyN K H b t ∧ TyN K H c u ∧ TyN K H d v ∧ oneWay W ∧ okN W ∧ W.kn.length ≤ 1000 ∧ FQ (tieO W b c d) H Q
def P_l_more_fault (K : PySem.W.Frag) (a b c d : V) (H : Hp) (Q : VK) (E : XK) : Prop := ∃ (s d0 d1 : Addr) (W : WebS) (t u v : String), a = .ref s ∧ StO H s d0 d1 W ∧ TyN K H b t ∧ TyN K H c u ∧ TyN K H d v ∧ oneWay W ∧ okN W ∧ W.kn.length ≤ 1000 ∧ FQ (moreO W b c d) H Q
def P_l_fault (K : PySem.W.Frag) (a b : V) (H : Hp) (Q : VK) (E : XK) : Prop := ∃ (s d0 d1 T : Addr) (W : WebS) (dv : DeedV), a = .ref s ∧ StO H s d0 d1 W ∧ b = .ref T ∧ H T = some (.tup (deedT dv)) ∧ (∀ v ∈ deedT dv, AnyW K H v) ∧ oneWay W ∧ okN W ∧ W.hv.length ≤ 1000 ∧ W.kn.length ≤ 1000 ∧ FQ (doneO W dv) H Q
def P_l_any_name (K : PySem.W.Frag) (a b : V) (H : Hp) (Q : VK) (E : XK) : Prop := ∃ (s d0 d1 p : Addr) (W : WebS) (i j : Int), a = .ref s ∧ StO H s d0 d1 W ∧ b = .ref p ∧ SqL K H p [.int i, .int j] ∧ W.hv.length ≤ 1000 ∧ okN W ∧ (∀ e ∈ W.hv, e.1.length ≤ 20000) ∧ ∀ v H', Same H H' → AnyW K H' v → Q v H'
def P_l_drawn (K : PySem.W.Frag) (a b : V) (H : Hp) (Q : VK) (E : XK) : Prop := ∃ (s d0 d1 p : Addr) (W : WebS) (i0 i1 i2 i3 i4 i5 i6 : Int) (r : List V), a = .ref s ∧ StO H s d0 d1 W ∧ b = .ref p ∧ SqL K H p (.int i0 :: .int i1 :: .int i2 :: .int i3 :: .int i4 :: .int i5 :: .int i6 :: r) ∧ r.length ≤ 20 ∧ 0 ≤ i6 ∧ i6 < 14 ∧ W.hv.length ≤ 1000 ∧ W.kn.length ≤ 1000 ∧ okN W ∧ (∀ e ∈ W.hv, e.1.length ≤ 20000) ∧ (∀ e ∈ W.kn, e.1.1.length ≤ 20000 ∧ e.1.2.length ≤ 20000) ∧
  ∀ dv T H', Same H H' → H' T = some (.tup (deedT dv)) → (∀ v ∈ deedT dv, AnyW K H' v) → Q (.ref T) H'
def askO (W : WebS) (w : Int) (b c : V) : RefO := if w = 2 then bothO W b c else placeO W b
@[irreducible] def P_l_asked (K : PySem.W.Frag) (a b c d : V) (H : Hp) (Q : VK) (E : XK) : Prop := ∃ (x p q : Addr) (W : WebS) (w : Int), a = .ref x ∧ EK K ∧ WebO K H x p q W ∧ b = .int w ∧ (w = 0 ∨ w = 1 ∨ w = 2) ∧ AnyV K H c ∧ AnyV K H d ∧ (W.hv.map Prod.fst).Nodup ∧ W.hv.length ≤ 60 ∧ FQ (askO W w c d) H Q
def P_l_questions (K : PySem.W.Frag) (a b c d : V) (H : Hp) (Q : VK) (E : XK) : Prop := ∃ (x p q s d0 d1 : Addr) (W : WebS), a = .ref x ∧ EK K ∧ WebO K H x p q W ∧ b = .ref s ∧ StO H s d0 d1 W ∧ AnyV K H c ∧ AnyV K H d ∧ (W.hv.map Prod.fst).Nodup ∧ W.hv.length ≤ 60 ∧ ∀ H', Same H H' → Q (.bl true) H'
def P_law (K : PySem.W.Frag) (a : V) (H : Hp) (Q : VK) (E : XK) : Prop := ErrK K errsL testsL ∧ WebK K ∧ ∃ (s : Addr) (ns : List Int), a = .ref s ∧ SqL K H s (ns.map V.int) ∧ ns.length ≤ 63 ∧ ∀ H', Q (.bl true) H'

def sp_NoName_init (K : PySem.W.Frag) : Sp := fun vs H Q E => match vs with
  | [a0, a1] => P_NoName_init K a0 a1 H Q E
  | _ => False
def sp_NoWeight_init (K : PySem.W.Frag) : Sp := fun vs H Q E => match vs with
  | [a0, a1] => P_NoWeight_init K a0 a1 H Q E
  | _ => False
def sp_NoStrength_init (K : PySem.W.Frag) : Sp := fun vs H Q E => match vs with
  | [a0, a1] => P_NoStrength_init K a0 a1 H Q E
  | _ => False
def sp_NoPlace_init (K : PySem.W.Frag) : Sp := fun vs H Q E => match vs with
  | [a0, a1] => P_NoPlace_init K a0 a1 H Q E
  | _ => False
def sp_NoTie_init (K : PySem.W.Frag) : Sp := fun vs H Q E => match vs with
  | [a0, a1, a2] => P_NoTie_init K a0 a1 a2 H Q E
  | _ => False
def sp_Same_init (K : PySem.W.Frag) : Sp := fun vs H Q E => match vs with
  | [a0, a1] => P_Same_init K a0 a1 H Q E
  | _ => False
def sp_Taken_init (K : PySem.W.Frag) : Sp := fun vs H Q E => match vs with
  | [a0, a1] => P_Taken_init K a0 a1 H Q E
  | _ => False
def sp_Tied_init (K : PySem.W.Frag) : Sp := fun vs H Q E => match vs with
  | [a0, a1, a2] => P_Tied_init K a0 a1 a2 H Q E
  | _ => False
def sp_TooMany_init (K : PySem.W.Frag) : Sp := fun vs H Q E => match vs with
  | [a0, a1] => P_TooMany_init K a0 a1 H Q E
  | _ => False
def sp_Beyond_init (K : PySem.W.Frag) : Sp := fun vs H Q E => match vs with
  | [a0, a1] => P_Beyond_init K a0 a1 H Q E
  | _ => False
def sp_is_whole (K : PySem.W.Frag) : Sp := fun vs H Q E => match vs with
  | [a0, a1, a2] => P_is_whole K a0 a1 a2 H Q E
  | _ => False
def sp_is_name (K : PySem.W.Frag) : Sp := fun vs H Q E => match vs with
  | [a0] => P_is_name K a0 H Q E
  | _ => False
def sp_Web_init (K : PySem.W.Frag) : Sp := fun vs H Q E => match vs with
  | [a0] => P_Web_init K a0 H Q E
  | _ => False
def sp_Web_need_place (K : PySem.W.Frag) : Sp := fun vs H Q E => match vs with
  | [a0, a1] => P_Web_need_place K a0 a1 H Q E
  | _ => False
def sp_Web_need_two (K : PySem.W.Frag) : Sp := fun vs H Q E => match vs with
  | [a0, a1, a2] => P_Web_need_two K a0 a1 a2 H Q E
  | _ => False
def sp_Web_knot (K : PySem.W.Frag) : Sp := fun vs H Q E => match vs with
  | [a0, a1, a2] => P_Web_knot K a0 a1 a2 H Q E
  | _ => False
def sp_Web_need_tie (K : PySem.W.Frag) : Sp := fun vs H Q E => match vs with
  | [a0, a1, a2] => P_Web_need_tie K a0 a1 a2 H Q E
  | _ => False
def sp_Web_need_weight (K : PySem.W.Frag) : Sp := fun vs H Q E => match vs with
  | [a0, a1] => P_Web_need_weight K a0 a1 H Q E
  | _ => False
def sp_Web_put (K : PySem.W.Frag) : Sp := fun vs H Q E => match vs with
  | [a0, a1, a2] => P_Web_put K a0 a1 a2 H Q E
  | _ => False
def sp_Web_weigh (K : PySem.W.Frag) : Sp := fun vs H Q E => match vs with
  | [a0, a1, a2] => P_Web_weigh K a0 a1 a2 H Q E
  | _ => False
def sp_Web_drop (K : PySem.W.Frag) : Sp := fun vs H Q E => match vs with
  | [a0, a1] => P_Web_drop K a0 a1 H Q E
  | _ => False
def sp_Web_tie (K : PySem.W.Frag) : Sp := fun vs H Q E => match vs with
  | [a0, a1, a2, a3] => P_Web_tie K a0 a1 a2 a3 H Q E
  | _ => False
def sp_Web_more (K : PySem.W.Frag) : Sp := fun vs H Q E => match vs with
  | [a0, a1, a2, a3] => P_Web_more K a0 a1 a2 a3 H Q E
  | _ => False
def sp_Web_untie (K : PySem.W.Frag) : Sp := fun vs H Q E => match vs with
  | [a0, a1, a2] => P_Web_untie K a0 a1 a2 H Q E
  | _ => False
def sp_Web_names (K : PySem.W.Frag) : Sp := fun vs H Q E => match vs with
  | [a0] => P_Web_names K a0 H Q E
  | _ => False
def sp_Web_weight (K : PySem.W.Frag) : Sp := fun vs H Q E => match vs with
  | [a0, a1] => P_Web_weight K a0 a1 H Q E
  | _ => False
def sp_Web_ties (K : PySem.W.Frag) : Sp := fun vs H Q E => match vs with
  | [a0] => P_Web_ties K a0 H Q E
  | _ => False
def sp_Web_strength (K : PySem.W.Frag) : Sp := fun vs H Q E => match vs with
  | [a0, a1, a2] => P_Web_strength K a0 a1 a2 H Q E
  | _ => False
def sp_Web_near (K : PySem.W.Frag) : Sp := fun vs H Q E => match vs with
  | [a0, a1] => P_Web_near K a0 a1 H Q E
  | _ => False
def sp_Web_total (K : PySem.W.Frag) : Sp := fun vs H Q E => match vs with
  | [a0] => P_Web_total K a0 H Q E
  | _ => False
def sp_Web_force (K : PySem.W.Frag) : Sp := fun vs H Q E => match vs with
  | [a0] => P_Web_force K a0 H Q E
  | _ => False
def sp_l_row (K : PySem.W.Frag) : Sp := fun vs H Q E => match vs with
  | [a0, a1] => P_l_row K a0 a1 H Q E
  | _ => False
def sp_l_is_name (K : PySem.W.Frag) : Sp := fun vs H Q E => match vs with
  | [a0] => P_l_is_name K a0 H Q E
  | _ => False
def sp_l_is_whole (K : PySem.W.Frag) : Sp := fun vs H Q E => match vs with
  | [a0, a1, a2] => P_l_is_whole K a0 a1 a2 H Q E
  | _ => False
def sp_l_name (K : PySem.W.Frag) : Sp := fun vs H Q E => match vs with
  | [a0] => P_l_name K a0 H Q E
  | _ => False
def sp_l_odd (K : PySem.W.Frag) : Sp := fun vs H Q E => match vs with
  | [a0] => P_l_odd K a0 H Q E
  | _ => False
def sp_l_number (K : PySem.W.Frag) : Sp := fun vs H Q E => match vs with
  | [a0] => P_l_number K a0 H Q E
  | _ => False
def sp_l_two_fault (K : PySem.W.Frag) : Sp := fun vs H Q E => match vs with
  | [a0, a1, a2] => P_l_two_fault K a0 a1 a2 H Q E
  | _ => False
def sp_l_tied (K : PySem.W.Frag) : Sp := fun vs H Q E => match vs with
  | [a0, a1, a2] => P_l_tied K a0 a1 a2 H Q E
  | _ => False
def sp_l_put_fault (K : PySem.W.Frag) : Sp := fun vs H Q E => match vs with
  | [a0, a1, a2] => P_l_put_fault K a0 a1 a2 H Q E
  | _ => False
def sp_l_weigh_fault (K : PySem.W.Frag) : Sp := fun vs H Q E => match vs with
  | [a0, a1, a2] => P_l_weigh_fault K a0 a1 a2 H Q E
  | _ => False
def sp_l_tie_fault (K : PySem.W.Frag) : Sp := fun vs H Q E => match vs with
  | [a0, a1, a2, a3] => P_l_tie_fault K a0 a1 a2 a3 H Q E
  | _ => False
def sp_l_more_fault (K : PySem.W.Frag) : Sp := fun vs H Q E => match vs with
  | [a0, a1, a2, a3] => P_l_more_fault K a0 a1 a2 a3 H Q E
  | _ => False
def sp_l_fault (K : PySem.W.Frag) : Sp := fun vs H Q E => match vs with
  | [a0, a1] => P_l_fault K a0 a1 H Q E
  | _ => False
def sp_l_apply (K : PySem.W.Frag) : Sp := fun vs H Q E => match vs with
  | [a0, a1] => P_l_apply K a0 a1 H Q E
  | _ => False
def sp_l_ties (K : PySem.W.Frag) : Sp := fun vs H Q E => match vs with
  | [a0] => P_l_ties K a0 H Q E
  | _ => False
def sp_l_shows (K : PySem.W.Frag) : Sp := fun vs H Q E => match vs with
  | [a0, a1] => P_l_shows K a0 a1 H Q E
  | _ => False
def sp_l_done (K : PySem.W.Frag) : Sp := fun vs H Q E => match vs with
  | [a0, a1] => P_l_done K a0 a1 H Q E
  | _ => False
def sp_l_alike (K : PySem.W.Frag) : Sp := fun vs H Q E => match vs with
  | [a0, a1] => P_l_alike K a0 a1 H Q E
  | _ => False
def sp_l_any_name (K : PySem.W.Frag) : Sp := fun vs H Q E => match vs with
  | [a0, a1] => P_l_any_name K a0 a1 H Q E
  | _ => False
def sp_l_drawn (K : PySem.W.Frag) : Sp := fun vs H Q E => match vs with
  | [a0, a1] => P_l_drawn K a0 a1 H Q E
  | _ => False
def sp_l_asked (K : PySem.W.Frag) : Sp := fun vs H Q E => match vs with
  | [a0, a1, a2, a3] => P_l_asked K a0 a1 a2 a3 H Q E
  | _ => False
def sp_l_questions (K : PySem.W.Frag) : Sp := fun vs H Q E => match vs with
  | [a0, a1, a2, a3] => P_l_questions K a0 a1 a2 a3 H Q E
  | _ => False
def sp_law (K : PySem.W.Frag) : Sp := fun vs H Q E => match vs with
  | [a0] => P_law K a0 H Q E
  | _ => False
def spE_l_named (K : PySem.W.Frag) : SpE := fun a c d vs H Q E => match vs with
  | [a0] => P_hot_l_named K a c d a0 H Q E
  | _ => False
/-! _law_named(_law_e): 0 _law_e, 1 _law_found -/
def t_hot_l_named (K : PySem.W.Frag) (a : Addr) (c : Value) (d : Option Addr) (E : XK) : TS :=
  (tSeq (tAsg (tLst tNil) (gName 1))
  (tCut (uIf (tTru K (tCB (rIsi2 K a c d) (tCons (tV 0) (tCons (tC (.ref (He.ga K "NoName"))) tNil)))) (tDrop (tBM K "list" rAppend (tV 1) (tCons (tTup (tCons (tC (.str "name")) (tCons (fun σ H Q => tFld K (tV 0) "found" σ H Q ∨ tFldX K a c d (tV 0) "found" σ H Q) tNil))) tNil))) tNext)
  (tCut (uIf (tTru K (tCB (rIsi2 K a c d) (tCons (tV 0) (tCons (tC (.ref (He.ga K "NoWeight"))) tNil)))) (tDrop (tBM K "list" rAppend (tV 1) (tCons (tTup (tCons (tC (.str "weight")) (tCons (fun σ H Q => tFld K (tV 0) "found" σ H Q ∨ tFldX K a c d (tV 0) "found" σ H Q) tNil))) tNil))) tNext)
  (tCut (uIf (tTru K (tCB (rIsi2 K a c d) (tCons (tV 0) (tCons (tC (.ref (He.ga K "NoStrength"))) tNil)))) (tDrop (tBM K "list" rAppend (tV 1) (tCons (tTup (tCons (tC (.str "strength")) (tCons (fun σ H Q => tFld K (tV 0) "found" σ H Q ∨ tFldX K a c d (tV 0) "found" σ H Q) tNil))) tNil))) tNext)
  (tCut (uIf (tTru K (tCB (rIsi2 K a c d) (tCons (tV 0) (tCons (tC (.ref (He.ga K "NoPlace"))) tNil)))) (tDrop (tBM K "list" rAppend (tV 1) (tCons (tTup (tCons (tC (.str "place")) (tCons (fun σ H Q => tFld K (tV 0) "found" σ H Q ∨ tFldX K a c d (tV 0) "found" σ H Q) tNil))) tNil))) tNext)
  (tCut (uIf (tTru K (tCB (rIsi2 K a c d) (tCons (tV 0) (tCons (tC (.ref (He.ga K "NoTie"))) tNil)))) (tDrop (tBM K "list" rAppend (tV 1) (tCons (tTup (tCons (tC (.str "notie")) (tCons (fun σ H Q => tFld K (tV 0) "one" σ H Q ∨ tFldX K a c d (tV 0) "one" σ H Q) (tCons (fun σ H Q => tFld K (tV 0) "other" σ H Q ∨ tFldX K a c d (tV 0) "other" σ H Q) tNil)))) tNil))) tNext)
  (tCut (uIf (tTru K (tCB (rIsi2 K a c d) (tCons (tV 0) (tCons (tC (.ref (He.ga K "Same"))) tNil)))) (tDrop (tBM K "list" rAppend (tV 1) (tCons (tTup (tCons (tC (.str "same")) (tCons (fun σ H Q => tFld K (tV 0) "found" σ H Q ∨ tFldX K a c d (tV 0) "found" σ H Q) tNil))) tNil))) tNext)
  (tCut (uIf (tTru K (tCB (rIsi2 K a c d) (tCons (tV 0) (tCons (tC (.ref (He.ga K "Taken"))) tNil)))) (tDrop (tBM K "list" rAppend (tV 1) (tCons (tTup (tCons (tC (.str "taken")) (tCons (fun σ H Q => tFld K (tV 0) "found" σ H Q ∨ tFldX K a c d (tV 0) "found" σ H Q) tNil))) tNil))) tNext)
  (tCut (uIf (tTru K (tCB (rIsi2 K a c d) (tCons (tV 0) (tCons (tC (.ref (He.ga K "Tied"))) tNil)))) (tDrop (tBM K "list" rAppend (tV 1) (tCons (tTup (tCons (tC (.str "tied")) (tCons (fun σ H Q => tFld K (tV 0) "one" σ H Q ∨ tFldX K a c d (tV 0) "one" σ H Q) (tCons (fun σ H Q => tFld K (tV 0) "other" σ H Q ∨ tFldX K a c d (tV 0) "other" σ H Q) tNil)))) tNil))) tNext)
  (tCut (uIf (tTru K (tCB (rIsi2 K a c d) (tCons (tV 0) (tCons (tC (.ref (He.ga K "TooMany"))) tNil)))) (tDrop (tBM K "list" rAppend (tV 1) (tCons (tTup (tCons (tC (.str "many")) (tCons (fun σ H Q => tFld K (tV 0) "many" σ H Q ∨ tFldX K a c d (tV 0) "many" σ H Q) tNil))) tNil))) tNext)
  (tCut (uIf (tTru K (tCB (rIsi2 K a c d) (tCons (tV 0) (tCons (tC (.ref (He.ga K "Beyond"))) tNil)))) (tDrop (tBM K "list" rAppend (tV 1) (tCons (tTup (tCons (tC (.str "beyond")) (tCons (fun σ H Q => tFld K (tV 0) "many" σ H Q ∨ tFldX K a c d (tV 0) "many" σ H Q) tNil))) tNil))) tNext)
  (tSeq (uIf (uOr (tBo (tOp (rNeU K) (tCB (rLenU K) (tCons (tV 1) tNil)) (tC (.int 1)))) (tNot (tTru K (tCB (rIsi2 K a c d) (tCons (tV 0) (tCons (tC (.ty "ValueError")) tNil)))))) (tRet (tTup (tCons (tC (.str "odd")) (tCons (tC .non) tNil)))) tNext)
  (tRet (tOp (rIxU K) (tV 1) (tC (.int 0))))))))))))))))
/-! __init__(self, found): 0 self, 1 found -/
def t_NoName_init (K : PySem.W.Frag) (E : XK) : TS :=
  (tSeq (tDrop (tVeI K (tCons (tV 0) (tCons (tC (.str "what is no name")) tNil))))
  (tOst K "found" (tV 0) (tV 1)))
/-! __init__(self, found): 0 self, 1 found -/
def t_NoWeight_init (K : PySem.W.Frag) (E : XK) : TS :=
  (tSeq (tDrop (tVeI K (tCons (tV 0) (tCons (tC (.str "what is no weight")) tNil))))
  (tOst K "found" (tV 0) (tV 1)))
/-! __init__(self, found): 0 self, 1 found -/
def t_NoStrength_init (K : PySem.W.Frag) (E : XK) : TS :=
  (tSeq (tDrop (tVeI K (tCons (tV 0) (tCons (tC (.str "what is no strength")) tNil))))
  (tOst K "found" (tV 0) (tV 1)))
/-! __init__(self, found): 0 self, 1 found -/
def t_NoPlace_init (K : PySem.W.Frag) (E : XK) : TS :=
  (tSeq (tDrop (tVeI K (tCons (tV 0) (tCons (tC (.str "what is no place here")) tNil))))
  (tOst K "found" (tV 0) (tV 1)))
/-! __init__(self, one, other): 0 self, 1 one, 2 other -/
def t_NoTie_init (K : PySem.W.Frag) (E : XK) : TS :=
  (tSeq (tDrop (tVeI K (tCons (tV 0) (tCons (tC (.str "two places without a tie")) tNil))))
  (tSeq (tOst K "one" (tV 0) (tV 1))
  (tOst K "other" (tV 0) (tV 2))))
/-! __init__(self, found): 0 self, 1 found -/
def t_Same_init (K : PySem.W.Frag) (E : XK) : TS :=
  (tSeq (tDrop (tVeI K (tCons (tV 0) (tCons (tC (.str "a place and itself")) tNil))))
  (tOst K "found" (tV 0) (tV 1)))
/-! __init__(self, found): 0 self, 1 found -/
def t_Taken_init (K : PySem.W.Frag) (E : XK) : TS :=
  (tSeq (tDrop (tVeI K (tCons (tV 0) (tCons (tC (.str "a name that a place has already")) tNil))))
  (tOst K "found" (tV 0) (tV 1)))
/-! __init__(self, one, other): 0 self, 1 one, 2 other -/
def t_Tied_init (K : PySem.W.Frag) (E : XK) : TS :=
  (tSeq (tDrop (tVeI K (tCons (tV 0) (tCons (tC (.str "two places that have a tie already")) tNil))))
  (tSeq (tOst K "one" (tV 0) (tV 1))
  (tOst K "other" (tV 0) (tV 2))))
/-! __init__(self, many): 0 self, 1 many -/
def t_TooMany_init (K : PySem.W.Frag) (E : XK) : TS :=
  (tSeq (tDrop (tVeI K (tCons (tV 0) (tCons (tC (.str "more than there may be")) tNil))))
  (tOst K "many" (tV 0) (tV 1)))
/-! __init__(self, many): 0 self, 1 many -/
def t_Beyond_init (K : PySem.W.Frag) (E : XK) : TS :=
  (tSeq (tDrop (tVeI K (tCons (tV 0) (tCons (tC (.str "more together than there may be")) tNil))))
  (tOst K "many" (tV 0) (tV 1)))
/-! is_whole(thing, low, high): 0 thing, 1 low, 2 high -/
def t_is_whole (K : PySem.W.Frag) (E : XK) : TS :=
  (tRet (tAndU (tCB (rIsiU K) (tCons (tV 0) (tCons (tC (.ty "int")) tNil))) (tAndU (tNotU (tCB (rIsiU K) (tCons (tV 0) (tCons (tC (.ty "bool")) tNil)))) (tChU rLeU rLeU (tV 1) (tV 0) (tV 2)))))
/-! is_name(thing): 0 thing, 1 sign -/
def t_is_name (K : PySem.W.Frag) (E : XK) : TS :=
  (tSeq (uIf (uOr (tNot (tTru K (tCB (rIsiU K) (tCons (tV 0) (tCons (tC (.ty "str")) tNil))))) (tNot (tBo (tChU rLeU rLeU (tC (.int 1)) (tCB (rLenU K) (tCons (tV 0) tNil)) (tC (.int 8)))))) (tRet (tC (.bl false))) tNext)
  (tRet (tCB (rAll K) (tCons (lcE (seqOr K true (tV 0)) (gName 1) tYes (tOp (rInU K) (tV 1) (tC (.str "abcdefghijklmnopqrstuvwxyz"))) [1]) tNil))))
/-! __init__(self): 0 self -/
def t_Web_init (K : PySem.W.Frag) (E : XK) : TS :=
  (tSeq (sFld K (tV 0) (fun σ H Q => tDNewK σ H Q ∨ tDNewT σ H Q) "heavy")
  (sFld K (tV 0) (fun σ H Q => tDNewK σ H Q ∨ tDNewT σ H Q) "knots"))
/-! need_place(self, name): 0 self, 1 name -/
def t_Web_need_place (K : PySem.W.Frag) (E : XK) : TS :=
  (uIf (uOr (tNot (tTru K (tCB (rIsiU K) (tCons (tV 1) (tCons (tC (.ty "str")) tNil))))) (tBo (tOp (rNinU K) (tV 1) (tFld K (tV 0) "heavy")))) (uRaise (tMkO (He.ga K "NoPlace") (sp_NoPlace_init K) [] (tCons (tV 1) tNil)) (fun _ => E)) tNext)
/-! need_two(self, one, other): 0 self, 1 one, 2 other -/
def t_Web_need_two (K : PySem.W.Frag) (E : XK) : TS :=
  (tSeq (tDrop (tMethS (He.ga K "Web") "need_place" (sp_Web_need_place K) [] (fun _ => E) (tV 0) (tCons (tV 1) tNil)))
  (tSeq (tDrop (tMethS (He.ga K "Web") "need_place" (sp_Web_need_place K) [] (fun _ => E) (tV 0) (tCons (tV 2) tNil)))
  (uIf (tBo (tOp (rEqU K) (tV 1) (tV 2))) (uRaise (tMkO (He.ga K "Same") (sp_Same_init K) [] (tCons (tV 1) tNil)) (fun _ => E)) tNext)))
/-! knot(self, one, other): 0 self, 1 one, 2 other -/
def t_Web_knot (K : PySem.W.Frag) (E : XK) : TS :=
  (tSeq (uIf (tBo (tOp (rInU K) (tTup (tCons (tV 1) (tCons (tV 2) tNil))) (tFld K (tV 0) "knots"))) (tRet (tTup (tCons (tV 1) (tCons (tV 2) tNil)))) tNext)
  (tSeq (uIf (tBo (tOp (rInU K) (tTup (tCons (tV 2) (tCons (tV 1) tNil))) (tFld K (tV 0) "knots"))) (tRet (tTup (tCons (tV 2) (tCons (tV 1) tNil)))) tNext)
  (tRet (tC .non))))
/-! need_tie(self, one, other): 0 self, 1 one, 2 other, 3 found -/
def t_Web_need_tie (K : PySem.W.Frag) (E : XK) : TS :=
  (tSeq (tDrop (tMethS (He.ga K "Web") "need_two" (sp_Web_need_two K) [] (fun _ => E) (tV 0) (tCons (tV 1) (tCons (tV 2) tNil))))
  (tSeq (tAsg (tMethS (He.ga K "Web") "knot" (sp_Web_knot K) [] (fun _ => E) (tV 0) (tCons (tV 1) (tCons (tV 2) tNil))) (gName 3))
  (tSeq (uIf (tBo (tOp rIsU (tV 3) (tC .non))) (uRaise (tMkO (He.ga K "NoTie") (sp_NoTie_init K) [] (tCons (tV 1) (tCons (tV 2) tNil))) (fun _ => E)) tNext)
  (tRet (tV 3)))))
/-! need_weight(self, weight): 0 self, 1 weight -/
def t_Web_need_weight (K : PySem.W.Frag) (E : XK) : TS :=
  (uIf (tNot (tTru K (tCallSD (sp_is_whole K) [] (fun _ => E) (tCons (tV 1) (tCons (tC (.int 1)) (tCons (tC (.int 1000000000)) tNil)))))) (uRaise (tMkO (He.ga K "NoWeight") (sp_NoWeight_init K) [] (tCons (tV 1) tNil)) (fun _ => E)) tNext)
/-! put(self, name, weight): 0 self, 1 name, 2 weight -/
def t_Web_put (K : PySem.W.Frag) (E : XK) : TS :=
  (tSeq (uIf (tNot (tTru K (tCallSD (sp_is_name K) [] (fun _ => E) (tCons (tV 1) tNil)))) (uRaise (tMkO (He.ga K "NoName") (sp_NoName_init K) [] (tCons (tV 1) tNil)) (fun _ => E)) tNext)
  (tSeq (tDrop (tMethS (He.ga K "Web") "need_weight" (sp_Web_need_weight K) [] (fun _ => E) (tV 0) (tCons (tV 2) tNil)))
  (tSeq (uIf (tBo (tOp (rInU K) (tV 1) (tFld K (tV 0) "heavy"))) (uRaise (tMkO (He.ga K "Taken") (sp_Taken_init K) [] (tCons (tV 1) tNil)) (fun _ => E)) tNext)
  (tSeq (uIf (tBo (tOp rGeU (tCB (rLenU K) (tCons (tFld K (tV 0) "heavy") tNil)) (tC (.int 60)))) (uRaise (tMkO (He.ga K "TooMany") (sp_TooMany_init K) [] (tCons (tOp (rAddU K) (tC (.int 60)) (tC (.int 1))) tNil)) (fun _ => E)) tNext)
  (tSeq (uIf (tBo (tOp rGtU (tOp (rAddU K) (tMethS (He.ga K "Web") "total" (sp_Web_total K) [] (fun _ => E) (tV 0) tNil) (tV 2)) (tC (.int 1000000000)))) (uRaise (tMkO (He.ga K "Beyond") (sp_Beyond_init K) [] (tCons (tOp (rAddU K) (tMethS (He.ga K "Web") "total" (sp_Web_total K) [] (fun _ => E) (tV 0) tNil) (tV 2)) tNil)) (fun _ => E)) tNext)
  (tAsg (tV 2) (gSub (tFld K (tV 0) "heavy") (tV 1) rSetU)))))))
/-! weigh(self, name, weight): 0 self, 1 name, 2 weight, 3 behind -/
def t_Web_weigh (K : PySem.W.Frag) (E : XK) : TS :=
  (tSeq (tDrop (tMethS (He.ga K "Web") "need_place" (sp_Web_need_place K) [] (fun _ => E) (tV 0) (tCons (tV 1) tNil)))
  (tSeq (tDrop (tMethS (He.ga K "Web") "need_weight" (sp_Web_need_weight K) [] (fun _ => E) (tV 0) (tCons (tV 2) tNil)))
  (tSeq (tAsg (tOp (rAddU K) (tOp rSubU (tMethS (He.ga K "Web") "total" (sp_Web_total K) [] (fun _ => E) (tV 0) tNil) (tOp (rIxU K) (tFld K (tV 0) "heavy") (tV 1))) (tV 2)) (gName 3))
  (tSeq (uIf (tBo (tOp rGtU (tV 3) (tC (.int 1000000000)))) (uRaise (tMkO (He.ga K "Beyond") (sp_Beyond_init K) [] (tCons (tV 3) tNil)) (fun _ => E)) tNext)
  (tAsg (tV 2) (gSub (tFld K (tV 0) "heavy") (tV 1) rSetU))))))
/-! drop(self, name): 0 self, 1 name, 2 one, 3 other -/
def t_Web_drop (K : PySem.W.Frag) (E : XK) : TS :=
  (tSeq (tDrop (tMethS (He.ga K "Web") "need_place" (sp_Web_need_place K) [] (fun _ => E) (tV 0) (tCons (tV 1) tNil)))
  (tSeq (tDrop (fun σ H Q => tBM K "list" (fun x xs H Q => rPop x xs H Q ∨ rPopAt x xs H Q) (tFld K (tV 0) "heavy") (tCons (tV 1) tNil) σ H Q ∨ tBM K "dict" rDPopM (tFld K (tV 0) "heavy") (tCons (tV 1) tNil) σ H Q))
  (forS (seqOr K true (tCB rListDU (tCons (tFld K (tV 0) "knots") tNil))) (gTup K 2 (gCons (gName 2) (gCons (gName 3) gNil))) (uIf (uOr (tBo (tOp (rEqU K) (tV 1) (tV 2))) (tBo (tOp (rEqU K) (tV 1) (tV 3)))) (tDrop (fun σ H Q => tBM K "list" (fun x xs H Q => rPop x xs H Q ∨ rPopAt x xs H Q) (tFld K (tV 0) "knots") (tCons (tTup (tCons (tV 2) (tCons (tV 3) tNil))) tNil) σ H Q ∨ tBM K "dict" rDPopM (tFld K (tV 0) "knots") (tCons (tTup (tCons (tV 2) (tCons (tV 3) tNil))) tNil) σ H Q)) tNext))))
/-! tie(self, one, other, strength): 0 self, 1 one, 2 other, 3 strength -/
def t_Web_tie (K : PySem.W.Frag) (E : XK) : TS :=
  (tSeq (tDrop (tMethS (He.ga K "Web") "need_two" (sp_Web_need_two K) [] (fun _ => E) (tV 0) (tCons (tV 1) (tCons (tV 2) tNil))))
  (tSeq (uIf (tNot (tTru K (tCallSD (sp_is_whole K) [] (fun _ => E) (tCons (tV 3) (tCons (tC (.int 1)) (tCons (tC (.int 1000000000)) tNil)))))) (uRaise (tMkO (He.ga K "NoStrength") (sp_NoStrength_init K) [] (tCons (tV 3) tNil)) (fun _ => E)) tNext)
  (tSeq (uIf (tBo (tOp rIsnU (tMethS (He.ga K "Web") "knot" (sp_Web_knot K) [] (fun _ => E) (tV 0) (tCons (tV 1) (tCons (tV 2) tNil))) (tC .non))) (uRaise (tMkO (He.ga K "Tied") (sp_Tied_init K) [] (tCons (tV 1) (tCons (tV 2) tNil))) (fun _ => E)) tNext)
  (tSeq (uIf (tBo (tOp rGeU (tCB (rLenU K) (tCons (tFld K (tV 0) "knots") tNil)) (tC (.int 200)))) (uRaise (tMkO (He.ga K "TooMany") (sp_TooMany_init K) [] (tCons (tOp (rAddU K) (tC (.int 200)) (tC (.int 1))) tNil)) (fun _ => E)) tNext)
  (tSeq (uIf (tBo (tOp rGtU (tOp (rAddU K) (tMethS (He.ga K "Web") "force" (sp_Web_force K) [] (fun _ => E) (tV 0) tNil) (tV 3)) (tC (.int 1000000000)))) (uRaise (tMkO (He.ga K "Beyond") (sp_Beyond_init K) [] (tCons (tOp (rAddU K) (tMethS (He.ga K "Web") "force" (sp_Web_force K) [] (fun _ => E) (tV 0) tNil) (tV 3)) tNil)) (fun _ => E)) tNext)
  (tAsg (tV 3) (gSub (tFld K (tV 0) "knots") (tTup (tCons (tV 1) (tCons (tV 2) tNil))) rSetU)))))))
/-! more(self, one, other, by): 0 self, 1 one, 2 other, 3 by, 4 found -/
def t_Web_more (K : PySem.W.Frag) (E : XK) : TS :=
  (tSeq (tAsg (tMethS (He.ga K "Web") "need_tie" (sp_Web_need_tie K) [] (fun _ => E) (tV 0) (tCons (tV 1) (tCons (tV 2) tNil))) (gName 4))
  (tSeq (uIf (uOr (tNot (tTru K (tCallSD (sp_is_whole K) [] (fun _ => E) (tCons (tV 3) (tCons (tOp rSubU (tC (.int 0)) (tC (.int 1000000000))) (tCons (tC (.int 1000000000)) tNil)))))) (tBo (tOp rLtU (tOp (rAddU K) (tOp (rIxU K) (tFld K (tV 0) "knots") (tV 4)) (tV 3)) (tC (.int 1))))) (uRaise (tMkO (He.ga K "NoStrength") (sp_NoStrength_init K) [] (tCons (tV 3) tNil)) (fun _ => E)) tNext)
  (tSeq (uIf (tBo (tOp rGtU (tOp (rAddU K) (tMethS (He.ga K "Web") "force" (sp_Web_force K) [] (fun _ => E) (tV 0) tNil) (tV 3)) (tC (.int 1000000000)))) (uRaise (tMkO (He.ga K "Beyond") (sp_Beyond_init K) [] (tCons (tOp (rAddU K) (tMethS (He.ga K "Web") "force" (sp_Web_force K) [] (fun _ => E) (tV 0) tNil) (tV 3)) tNil)) (fun _ => E)) tNext)
  (tAugS (tFld K (tV 0) "knots") (tV 4) (tV 3) (rGetU K) rIAddU rSetU))))
/-! untie(self, one, other): 0 self, 1 one, 2 other -/
def t_Web_untie (K : PySem.W.Frag) (E : XK) : TS :=
  (tDrop (fun σ H Q => tBM K "list" (fun x xs H Q => rPop x xs H Q ∨ rPopAt x xs H Q) (tFld K (tV 0) "knots") (tCons (tMethS (He.ga K "Web") "need_tie" (sp_Web_need_tie K) [] (fun _ => E) (tV 0) (tCons (tV 1) (tCons (tV 2) tNil))) tNil) σ H Q ∨ tBM K "dict" rDPopM (tFld K (tV 0) "knots") (tCons (tMethS (He.ga K "Web") "need_tie" (sp_Web_need_tie K) [] (fun _ => E) (tV 0) (tCons (tV 1) (tCons (tV 2) tNil))) tNil) σ H Q))
/-! names(self): 0 self -/
def t_Web_names (K : PySem.W.Frag) (E : XK) : TS :=
  (tRet (tCB rListDU (tCons (tFld K (tV 0) "heavy") tNil)))
/-! weight(self, name): 0 self, 1 name -/
def t_Web_weight (K : PySem.W.Frag) (E : XK) : TS :=
  (tSeq (tDrop (tMethS (He.ga K "Web") "need_place" (sp_Web_need_place K) [] (fun _ => E) (tV 0) (tCons (tV 1) tNil)))
  (tRet (tOp (rIxU K) (tFld K (tV 0) "heavy") (tV 1))))
/-! ties(self): 0 self, 1 ranks, 2 found, 3 at, 4 name, 5 strength, 6 one, 7 other -/
def t_Web_ties (K : PySem.W.Frag) (E : XK) : TS :=
  (tSeq (tAsg (fun σ H Q => tDNewK σ H Q ∨ tDNewT σ H Q) (gName 1))
  (tSeq (forS [(false, iEnumU K (tCons (tFld K (tV 0) "heavy") tNil)), (true, iEnumU K (tCons (tFld K (tV 0) "heavy") tNil))] (gTup K 2 (gCons (gName 3) (gCons (gName 4) gNil))) (tAsg (tV 3) (gSub (tV 1) (tV 4) rSetU)))
  (tSeq (tAsg (tLst tNil) (gName 2))
  (tSeq (forS [(true, iItemsU (tFld K (tV 0) "knots"))] (gTup K 2 (gCons (gTup K 2 (gCons (gName 6) (gCons (gName 7) gNil))) (gCons (gName 5) gNil))) (uIf (tBo (tOp rLtU (tOp (rIxU K) (tV 1) (tV 6)) (tOp (rIxU K) (tV 1) (tV 7)))) (tDrop (tBM K "list" rAppend (tV 2) (tCons (tTup (tCons (tV 6) (tCons (tV 7) (tCons (tV 5) tNil)))) tNil))) (tDrop (tBM K "list" rAppend (tV 2) (tCons (tTup (tCons (tV 7) (tCons (tV 6) (tCons (tV 5) tNil)))) tNil)))))
  (tRet (tV 2))))))
/-! strength(self, one, other): 0 self, 1 one, 2 other, 3 found -/
def t_Web_strength (K : PySem.W.Frag) (E : XK) : TS :=
  (tSeq (tDrop (tMethS (He.ga K "Web") "need_place" (sp_Web_need_place K) [] (fun _ => E) (tV 0) (tCons (tV 1) tNil)))
  (tSeq (tDrop (tMethS (He.ga K "Web") "need_place" (sp_Web_need_place K) [] (fun _ => E) (tV 0) (tCons (tV 2) tNil)))
  (tSeq (tAsg (tMethS (He.ga K "Web") "knot" (sp_Web_knot K) [] (fun _ => E) (tV 0) (tCons (tV 1) (tCons (tV 2) tNil))) (gName 3))
  (tSeq (uIf (tBo (tOp rIsU (tV 3) (tC .non))) (tRet (tC (.int 0))) tNext)
  (tRet (tOp (rIxU K) (tFld K (tV 0) "knots") (tV 3)))))))
/-! near(self, name): 0 self, 1 name, 2 found, 3 other, 4 strength -/
def t_Web_near (K : PySem.W.Frag) (E : XK) : TS :=
  (tSeq (tDrop (tMethS (He.ga K "Web") "need_place" (sp_Web_need_place K) [] (fun _ => E) (tV 0) (tCons (tV 1) tNil)))
  (tSeq (tAsg (fun σ H Q => tDNewK σ H Q ∨ tDNewT σ H Q) (gName 2))
  (tSeq (forS (seqOr K true (tFld K (tV 0) "heavy")) (gName 3) (tSeq (tAsg (tMethS (He.ga K "Web") "strength" (sp_Web_strength K) [] (fun _ => E) (tV 0) (tCons (tV 1) (tCons (tV 3) tNil))) (gName 4))
  (uIf (tBo (tOp rGtU (tV 4) (tC (.int 0)))) (tAsg (tV 4) (gSub (tV 2) (tV 3) rSetU)) tNext)))
  (tRet (tV 2)))))
/-! total(self): 0 self, 1 weight -/
def t_Web_total (K : PySem.W.Frag) (E : XK) : TS :=
  (tRet (tCB (rSum K) (tCons (lcE [(true, iValsU (tFld K (tV 0) "heavy"))] (gName 1) tYes (tV 1) [1]) tNil)))
/-! force(self): 0 self, 1 strength -/
def t_Web_force (K : PySem.W.Frag) (E : XK) : TS :=
  (tRet (tCB (rSum K) (tCons (lcE [(true, iValsU (tFld K (tV 0) "knots"))] (gName 1) tYes (tV 1) [1]) tNil)))
/-! _law_row(_law_cell, _law_sizes): 0 _law_cell, 1 _law_sizes, 2 _law_found, 3 _law_left, 4 _law_number_here, 5 _law_k, 6 _law_other -/
def t_l_row (K : PySem.W.Frag) (E : XK) : TS :=
  (tSeq (tAsg (tLst tNil) (gName 2))
  (tSeq (tAsg (tOp rSubU (tV 0) (tOp rPowU (tC (.int 10)) (tC (.int 18)))) (gName 3))
  (tSeq (tAsg (tOp rModU (tV 0) (tC (.int 2147483647))) (gName 4))
  (tSeq (forS [(false, iRng1 (tCons (tCB (rLenU K) (tCons (tV 1) tNil)) tNil))] (gName 5) (uIf (tBo (tOp rGeU (tV 3) (tC (.int 0)))) (tSeq (tDrop (tBM K "list" rAppend (tV 2) (tCons (tOp rModU (tV 3) (tOp (rIxU K) (tV 1) (tV 5))) tNil)))
  (tAsg (tOp rDivU (tV 3) (tOp (rIxU K) (tV 1) (tV 5))) (gName 3))) (tSeq (tAsg (tOp rModU (tOp (rAddU K) (tOp (rAddU K) (tOp rMulU (tV 4) (tC (.int 48271))) (tOp rMulU (tC (.int 7919)) (tV 5))) (tC (.int 12345))) (tC (.int 2147483647))) (gName 4))
  (tSeq (tAsg (tOp rModU (tOp (rAddU K) (tOp (rAddU K) (tOp rMulU (tV 4) (tV 4)) (tOp rMulU (tC (.int 69621)) (tV 5))) (tC (.int 271))) (tC (.int 2147483629))) (gName 6))
  (tDrop (tBM K "list" rAppend (tV 2) (tCons (tOp rModU (tV 6) (tOp (rIxU K) (tV 1) (tV 5))) tNil)))))))
  (tRet (tV 2))))))
/-! _law_is_name(_law_thing): 0 _law_thing, 1 _law_sign -/
def t_l_is_name (K : PySem.W.Frag) (E : XK) : TS :=
  (tSeq (uIf (uOr (tNot (tTru K (tCB (rIsiU K) (tCons (tV 0) (tCons (tC (.ty "str")) tNil))))) (tNot (tBo (tChU rLtU rLtU (tC (.int 0)) (tCB (rLenU K) (tCons (tV 0) tNil)) (tC (.int 9)))))) (tRet (tC (.bl false))) tNext)
  (tRet (tOp (rEqU K) (lcE (seqOr K true (tV 0)) (gName 1) (tBo (tOp (rNinU K) (tV 1) (tC (.str "abcdefghijklmnopqrstuvwxyz")))) (tV 1) [1]) (tLst tNil))))
/-! _law_is_whole(_law_thing, _law_low, _law_high): 0 _law_thing, 1 _law_low, 2 _law_high -/
def t_l_is_whole (K : PySem.W.Frag) (E : XK) : TS :=
  (tRet (tAndU (tCB (rIsiU K) (tCons (tV 0) (tCons (tC (.ty "int")) tNil))) (tAndU (tNotU (tCB (rIsiU K) (tCons (tV 0) (tCons (tC (.ty "bool")) tNil)))) (tChU rLeU rLeU (tV 1) (tV 0) (tV 2)))))
/-! _law_name(_law_number_here): 0 _law_number_here, 1 _law_pool -/
def t_l_name (K : PySem.W.Frag) (E : XK) : TS :=
  (tSeq (tAsg (tLst (tCons (tC (.str "b")) (tCons (tC (.str "abc")) (tCons (tC (.str "tie")) (tCons (tC (.str "place")) (tCons (tC (.str "zz")) (tCons (tC (.str "drop")) (tCons (tC (.str "abcdefgh")) (tCons (tC (.str "a")) (tCons (tC (.str "weigh")) (tCons (tC (.str "ab")) (tCons (tC (.str "more")) (tCons (tC (.str "untie")) tNil))))))))))))) (gName 1))
  (tRet (tOp (rIxU K) (tV 1) (tOp rModU (tV 0) (tC (.int 12))))))
/-! _law_odd(_law_number_here): 0 _law_number_here, 1 _law_odd_here -/
def t_l_odd (K : PySem.W.Frag) (E : XK) : TS :=
  (tSeq (tAsg (tLst (tCons (tC .non) (tCons (tC (.bl true)) (tCons (tC (.bl false)) (tCons (tC (.str "")) (tCons (tC (.str "A")) (tCons (tC (.str "abcdefghi")) (tCons (tC (.str "a b")) (tCons (tC (.int 7)) (tCons (tLst (tCons (tC (.str "a")) tNil)) (tCons (tTup (tCons (tC (.str "a")) tNil)) (tCons (fun σ H Q => tDNewK σ H Q ∨ tDNewT σ H Q) (tCons (tC (.str "a1")) (tCons (tC (.str "nowhere")) (tCons (tOp rPowU (tC (.int 10)) (tC (.int 20))) tNil))))))))))))))) (gName 1))
  (tRet (tOp (rIxU K) (tV 1) (tOp rModU (tV 0) (tC (.int 14))))))
/-! _law_number(_law_xs): 0 _law_xs, 1 _law_some -/
def t_l_number (K : PySem.W.Frag) (E : XK) : TS :=
  (tSeq (tAsg (tLst (tCons (tOp (rAddU K) (tC (.int 1)) (tOp rModU (tOp (rIxU K) (tV 0) (tC (.int 0))) (tC (.int 30)))) (tCons (tOp (rAddU K) (tC (.int 1)) (tOp rModU (tOp (rIxU K) (tV 0) (tC (.int 0))) (tOp rPowU (tC (.int 10)) (tC (.int 9))))) (tCons (tOp rPowU (tC (.int 10)) (tC (.int 9))) (tCons (tOp (rAddU K) (tOp rPowU (tC (.int 10)) (tC (.int 9))) (tC (.int 1))) (tCons (tC (.int 0)) (tCons (tOp rSubU (tC (.int 0)) (tOp rModU (tOp (rIxU K) (tV 0) (tC (.int 0))) (tC (.int 40)))) (tCons (tOp rSubU (tC (.int 0)) (tOp rModU (tOp (rIxU K) (tV 0) (tC (.int 0))) (tOp (rAddU K) (tOp rPowU (tC (.int 10)) (tC (.int 9))) (tC (.int 2))))) tNil)))))))) (gName 1))
  (tRet (tOp (rIxU K) (tOp (rAddU K) (tV 1) (tLst (tCons (tC (.bl true)) (tCons (tC (.bl false)) (tCons (tC .non) (tCons (tC (.str "3")) (tCons (tLst (tCons (tC (.int 3)) tNil)) (tCons (tTup (tCons (tC (.int 3)) tNil)) (tCons (tOp (rAddU K) (tOp rPowU (tC (.int 10)) (tC (.int 25))) (tOp (rIxU K) (tV 0) (tC (.int 0)))) tNil))))))))) (tOp (rIxU K) (tV 0) (tC (.int 1))))))
/-! _law_two_fault(_law_state, _law_one, _law_other): 0 _law_state, 1 _law_one, 2 _law_other, 3 _law_name_here -/
def t_l_two_fault (K : PySem.W.Frag) (E : XK) : TS :=
  (tSeq (forS (seqOr K false (tLst (tCons (tV 1) (tCons (tV 2) tNil)))) (gName 3) (uIf (uOr (tNot (tTru K (tCB (rIsiU K) (tCons (tV 3) (tCons (tC (.ty "str")) tNil))))) (tBo (tOp (rNinU K) (tV 3) (tOp (rIxU K) (tV 0) (tC (.int 0)))))) (tRet (tTup (tCons (tC (.str "place")) (tCons (tV 3) tNil)))) tNext))
  (tSeq (uIf (tBo (tOp (rEqU K) (tV 1) (tV 2))) (tRet (tTup (tCons (tC (.str "same")) (tCons (tV 1) tNil)))) tNext)
  (tRet (tC .non))))
/-! _law_tied(_law_state, _law_one, _law_other): 0 _law_state, 1 _law_one, 2 _law_other, 3 _law_pair -/
def t_l_tied (K : PySem.W.Frag) (E : XK) : TS :=
  (tSeq (forS (seqOr K true (tOp (rIxU K) (tV 0) (tC (.int 1)))) (gName 3) (uIf (uOr (tBo (tOp (rEqU K) (tV 3) (tTup (tCons (tV 1) (tCons (tV 2) tNil))))) (tBo (tOp (rEqU K) (tV 3) (tTup (tCons (tV 2) (tCons (tV 1) tNil)))))) (tRet (tV 3)) tNext))
  (tRet (tC .non)))
/-! _law_put_fault(_law_state, _law_name_here, _law_weight): 0 _law_state, 1 _law_name_here, 2 _law_weight -/
def t_l_put_fault (K : PySem.W.Frag) (E : XK) : TS :=
  (tSeq (uIf (tNot (tTru K (tCallSD (sp_l_is_name K) [] (fun _ => E) (tCons (tV 1) tNil)))) (tRet (tTup (tCons (tC (.str "name")) (tCons (tV 1) tNil)))) tNext)
  (tSeq (uIf (tNot (tTru K (tCallSD (sp_l_is_whole K) [] (fun _ => E) (tCons (tV 2) (tCons (tC (.int 1)) (tCons (tOp rPowU (tC (.int 10)) (tC (.int 9))) tNil)))))) (tRet (tTup (tCons (tC (.str "weight")) (tCons (tV 2) tNil)))) tNext)
  (tSeq (uIf (tBo (tOp (rInU K) (tV 1) (tOp (rIxU K) (tV 0) (tC (.int 0))))) (tRet (tTup (tCons (tC (.str "taken")) (tCons (tV 1) tNil)))) tNext)
  (tSeq (uIf (tBo (tOp rGtU (tCB (rLenU K) (tCons (tOp (rIxU K) (tV 0) (tC (.int 0))) tNil)) (tC (.int 59)))) (tRet (tTup (tCons (tC (.str "many")) (tCons (tC (.int 61)) tNil)))) tNext)
  (tSeq (uIf (tBo (tOp rGtU (tOp (rAddU K) (tSumVals (tOp (rIxU K) (tV 0) (tC (.int 0)))) (tV 2)) (tOp rPowU (tC (.int 10)) (tC (.int 9))))) (tRet (tTup (tCons (tC (.str "beyond")) (tCons (tOp (rAddU K) (tSumVals (tOp (rIxU K) (tV 0) (tC (.int 0)))) (tV 2)) tNil)))) tNext)
  (tRet (tC .non)))))))
/-! _law_weigh_fault(_law_state, _law_name_here, _law_weight): 0 _law_state, 1 _law_name_here, 2 _law_weight, 3 _law_behind -/
def t_l_weigh_fault (K : PySem.W.Frag) (E : XK) : TS :=
  (tSeq (uIf (uOr (tNot (tTru K (tCB (rIsiU K) (tCons (tV 1) (tCons (tC (.ty "str")) tNil))))) (tBo (tOp (rNinU K) (tV 1) (tOp (rIxU K) (tV 0) (tC (.int 0)))))) (tRet (tTup (tCons (tC (.str "place")) (tCons (tV 1) tNil)))) tNext)
  (tSeq (uIf (tNot (tTru K (tCallSD (sp_l_is_whole K) [] (fun _ => E) (tCons (tV 2) (tCons (tC (.int 1)) (tCons (tOp rPowU (tC (.int 10)) (tC (.int 9))) tNil)))))) (tRet (tTup (tCons (tC (.str "weight")) (tCons (tV 2) tNil)))) tNext)
  (tSeq (tAsg (tOp (rAddU K) (tOp rSubU (tSumVals (tOp (rIxU K) (tV 0) (tC (.int 0)))) (tOp (rIxU K) (tOp (rIxU K) (tV 0) (tC (.int 0))) (tV 1))) (tV 2)) (gName 3))
  (tSeq (uIf (tBo (tOp rGtU (tV 3) (tOp rPowU (tC (.int 10)) (tC (.int 9))))) (tRet (tTup (tCons (tC (.str "beyond")) (tCons (tV 3) tNil)))) tNext)
  (tRet (tC .non))))))
/-! _law_tie_fault(_law_state, _law_one, _law_other, _law_strength): 0 _law_state, 1 _law_one, 2 _law_other, 3 _law_strength, 4 _law_fault_here -/
def t_l_tie_fault (K : PySem.W.Frag) (E : XK) : TS :=
  (tSeq (tAsg (tCallSD (sp_l_two_fault K) [] (fun _ => E) (tCons (tV 0) (tCons (tV 1) (tCons (tV 2) tNil)))) (gName 4))
  (tSeq (uIf (tBo (tOp rIsnU (tV 4) (tC .non))) (tRet (tV 4)) tNext)
  (tSeq (uIf (tNot (tTru K (tCallSD (sp_l_is_whole K) [] (fun _ => E) (tCons (tV 3) (tCons (tC (.int 1)) (tCons (tOp rPowU (tC (.int 10)) (tC (.int 9))) tNil)))))) (tRet (tTup (tCons (tC (.str "strength")) (tCons (tV 3) tNil)))) tNext)
  (tSeq (uIf (tBo (tOp rIsnU (tCallSD (sp_l_tied K) [] (fun _ => E) (tCons (tV 0) (tCons (tV 1) (tCons (tV 2) tNil)))) (tC .non))) (tRet (tTup (tCons (tC (.str "tied")) (tCons (tV 1) (tCons (tV 2) tNil))))) tNext)
  (tSeq (uIf (tBo (tOp rGtU (tCB (rLenU K) (tCons (tOp (rIxU K) (tV 0) (tC (.int 1))) tNil)) (tC (.int 199)))) (tRet (tTup (tCons (tC (.str "many")) (tCons (tC (.int 201)) tNil)))) tNext)
  (tSeq (uIf (tBo (tOp rGtU (tOp (rAddU K) (tSumVals (tOp (rIxU K) (tV 0) (tC (.int 1)))) (tV 3)) (tOp rPowU (tC (.int 10)) (tC (.int 9))))) (tRet (tTup (tCons (tC (.str "beyond")) (tCons (tOp (rAddU K) (tSumVals (tOp (rIxU K) (tV 0) (tC (.int 1)))) (tV 3)) tNil)))) tNext)
  (tRet (tC .non))))))))
/-! _law_more_fault(_law_state, _law_one, _law_other, _law_by): 0 _law_state, 1 _law_one, 2 _law_other, 3 _law_by, 4 _law_fault_here, 5 _law_pair -/
def t_l_more_fault (K : PySem.W.Frag) (E : XK) : TS :=
  (tSeq (tAsg (tCallSD (sp_l_two_fault K) [] (fun _ => E) (tCons (tV 0) (tCons (tV 1) (tCons (tV 2) tNil)))) (gName 4))
  (tSeq (uIf (tBo (tOp rIsnU (tV 4) (tC .non))) (tRet (tV 4)) tNext)
  (tSeq (tAsg (tCallSD (sp_l_tied K) [] (fun _ => E) (tCons (tV 0) (tCons (tV 1) (tCons (tV 2) tNil)))) (gName 5))
  (tSeq (uIf (tBo (tOp rIsU (tV 5) (tC .non))) (tRet (tTup (tCons (tC (.str "notie")) (tCons (tV 1) (tCons (tV 2) tNil))))) tNext)
  (tSeq (uIf (uOr (tNot (tTru K (tCallSD (sp_l_is_whole K) [] (fun _ => E) (tCons (tV 3) (tCons (tOp rSubU (tC (.int 0)) (tOp rPowU (tC (.int 10)) (tC (.int 9)))) (tCons (tOp rPowU (tC (.int 10)) (tC (.int 9))) tNil)))))) (tBo (tOp rLtU (tOp (rAddU K) (tOp (rIxU K) (tOp (rIxU K) (tV 0) (tC (.int 1))) (tV 5)) (tV 3)) (tC (.int 1))))) (tRet (tTup (tCons (tC (.str "strength")) (tCons (tV 3) tNil)))) tNext)
  (tSeq (uIf (tBo (tOp rGtU (tOp (rAddU K) (tSumVals (tOp (rIxU K) (tV 0) (tC (.int 1)))) (tV 3)) (tOp rPowU (tC (.int 10)) (tC (.int 9))))) (tRet (tTup (tCons (tC (.str "beyond")) (tCons (tOp (rAddU K) (tSumVals (tOp (rIxU K) (tV 0) (tC (.int 1)))) (tV 3)) tNil)))) tNext)
  (tRet (tC .non))))))))
/-! _law_fault(_law_state, _law_deed): 0 _law_state, 1 _law_deed, 2 _law_fault_here -/
def t_l_fault (K : PySem.W.Frag) (E : XK) : TS :=
  (tSeq (uIf (tBo (tOp (rEqU K) (tOp (rIxU K) (tV 1) (tC (.int 0))) (tC (.str "put")))) (tRet (tCallSD (sp_l_put_fault K) [] (fun _ => E) (tCons (tV 0) (tCons (tOp (rIxU K) (tV 1) (tC (.int 1))) (tCons (tOp (rIxU K) (tV 1) (tC (.int 2))) tNil))))) tNext)
  (tSeq (uIf (tBo (tOp (rEqU K) (tOp (rIxU K) (tV 1) (tC (.int 0))) (tC (.str "weigh")))) (tRet (tCallSD (sp_l_weigh_fault K) [] (fun _ => E) (tCons (tV 0) (tCons (tOp (rIxU K) (tV 1) (tC (.int 1))) (tCons (tOp (rIxU K) (tV 1) (tC (.int 2))) tNil))))) tNext)
  (tSeq (uIf (tBo (tOp (rEqU K) (tOp (rIxU K) (tV 1) (tC (.int 0))) (tC (.str "drop")))) (tSeq (uIf (uOr (tNot (tTru K (tCB (rIsiU K) (tCons (tOp (rIxU K) (tV 1) (tC (.int 1))) (tCons (tC (.ty "str")) tNil))))) (tBo (tOp (rNinU K) (tOp (rIxU K) (tV 1) (tC (.int 1))) (tOp (rIxU K) (tV 0) (tC (.int 0)))))) (tRet (tTup (tCons (tC (.str "place")) (tCons (tOp (rIxU K) (tV 1) (tC (.int 1))) tNil)))) tNext)
  (tRet (tC .non))) tNext)
  (tSeq (uIf (tBo (tOp (rEqU K) (tOp (rIxU K) (tV 1) (tC (.int 0))) (tC (.str "tie")))) (tRet (tCallSD (sp_l_tie_fault K) [] (fun _ => E) (tCons (tV 0) (tCons (tOp (rIxU K) (tV 1) (tC (.int 1))) (tCons (tOp (rIxU K) (tV 1) (tC (.int 2))) (tCons (tOp (rIxU K) (tV 1) (tC (.int 3))) tNil)))))) tNext)
  (tSeq (uIf (tBo (tOp (rEqU K) (tOp (rIxU K) (tV 1) (tC (.int 0))) (tC (.str "more")))) (tRet (tCallSD (sp_l_more_fault K) [] (fun _ => E) (tCons (tV 0) (tCons (tOp (rIxU K) (tV 1) (tC (.int 1))) (tCons (tOp (rIxU K) (tV 1) (tC (.int 2))) (tCons (tOp (rIxU K) (tV 1) (tC (.int 3))) tNil)))))) tNext)
  (tSeq (tAsg (tCallSD (sp_l_two_fault K) [] (fun _ => E) (tCons (tV 0) (tCons (tOp (rIxU K) (tV 1) (tC (.int 1))) (tCons (tOp (rIxU K) (tV 1) (tC (.int 2))) tNil)))) (gName 2))
  (tSeq (uIf (uAnd (tBo (tOp rIsU (tV 2) (tC .non))) (tBo (tOp rIsU (tCallSD (sp_l_tied K) [] (fun _ => E) (tCons (tV 0) (tCons (tOp (rIxU K) (tV 1) (tC (.int 1))) (tCons (tOp (rIxU K) (tV 1) (tC (.int 2))) tNil)))) (tC .non)))) (tRet (tTup (tCons (tC (.str "notie")) (tCons (tOp (rIxU K) (tV 1) (tC (.int 1))) (tCons (tOp (rIxU K) (tV 1) (tC (.int 2))) tNil))))) tNext)
  (tRet (tV 2)))))))))
/-! _law_apply(_law_state, _law_deed): 0 _law_state, 1 _law_deed, 2 _law_pair -/
def t_l_apply (K : PySem.W.Frag) (E : XK) : TS :=
  (tCut (uIf (uOr (tBo (tOp (rEqU K) (tOp (rIxU K) (tV 1) (tC (.int 0))) (tC (.str "put")))) (tBo (tOp (rEqU K) (tOp (rIxU K) (tV 1) (tC (.int 0))) (tC (.str "weigh"))))) (tAsg (tOp (rIxU K) (tV 1) (tC (.int 2))) (gSub (tOp (rIxU K) (tV 0) (tC (.int 0))) (tOp (rIxU K) (tV 1) (tC (.int 1))) rSetU)) tNext)
  (tCut (uIf (tBo (tOp (rEqU K) (tOp (rIxU K) (tV 1) (tC (.int 0))) (tC (.str "drop")))) (tSeq (tDrop (fun σ H Q => tBM K "list" (fun x xs H Q => rPop x xs H Q ∨ rPopAt x xs H Q) (tOp (rIxU K) (tV 0) (tC (.int 0))) (tCons (tOp (rIxU K) (tV 1) (tC (.int 1))) tNil) σ H Q ∨ tBM K "dict" rDPopM (tOp (rIxU K) (tV 0) (tC (.int 0))) (tCons (tOp (rIxU K) (tV 1) (tC (.int 1))) tNil) σ H Q))
  (forS (seqOr K true (tCB rListDU (tCons (tOp (rIxU K) (tV 0) (tC (.int 1))) tNil))) (gName 2) (uIf (tBo (tOp (rInU K) (tOp (rIxU K) (tV 1) (tC (.int 1))) (tV 2))) (tDrop (fun σ H Q => tBM K "list" (fun x xs H Q => rPop x xs H Q ∨ rPopAt x xs H Q) (tOp (rIxU K) (tV 0) (tC (.int 1))) (tCons (tV 2) tNil) σ H Q ∨ tBM K "dict" rDPopM (tOp (rIxU K) (tV 0) (tC (.int 1))) (tCons (tV 2) tNil) σ H Q)) tNext))) tNext)
  (tCut (uIf (tBo (tOp (rEqU K) (tOp (rIxU K) (tV 1) (tC (.int 0))) (tC (.str "tie")))) (tAsg (tOp (rIxU K) (tV 1) (tC (.int 3))) (gSub (tOp (rIxU K) (tV 0) (tC (.int 1))) (tTup (tCons (tOp (rIxU K) (tV 1) (tC (.int 1))) (tCons (tOp (rIxU K) (tV 1) (tC (.int 2))) tNil))) rSetU)) tNext)
  (tCut (uIf (tBo (tOp (rEqU K) (tOp (rIxU K) (tV 1) (tC (.int 0))) (tC (.str "more")))) (tSeq (tAsg (tCallSD (sp_l_tied K) [] (fun _ => E) (tCons (tV 0) (tCons (tOp (rIxU K) (tV 1) (tC (.int 1))) (tCons (tOp (rIxU K) (tV 1) (tC (.int 2))) tNil)))) (gName 2))
  (tAsg (tOp (rAddU K) (tOp (rIxU K) (tOp (rIxU K) (tV 0) (tC (.int 1))) (tV 2)) (tOp (rIxU K) (tV 1) (tC (.int 3)))) (gSub (tOp (rIxU K) (tV 0) (tC (.int 1))) (tV 2) rSetU))) tNext)
  (uIf (tBo (tOp (rEqU K) (tOp (rIxU K) (tV 1) (tC (.int 0))) (tC (.str "untie")))) (tDrop (fun σ H Q => tBM K "list" (fun x xs H Q => rPop x xs H Q ∨ rPopAt x xs H Q) (tOp (rIxU K) (tV 0) (tC (.int 1))) (tCons (tCallSD (sp_l_tied K) [] (fun _ => E) (tCons (tV 0) (tCons (tOp (rIxU K) (tV 1) (tC (.int 1))) (tCons (tOp (rIxU K) (tV 1) (tC (.int 2))) tNil)))) tNil) σ H Q ∨ tBM K "dict" rDPopM (tOp (rIxU K) (tV 0) (tC (.int 1))) (tCons (tCallSD (sp_l_tied K) [] (fun _ => E) (tCons (tV 0) (tCons (tOp (rIxU K) (tV 1) (tC (.int 1))) (tCons (tOp (rIxU K) (tV 1) (tC (.int 2))) tNil)))) tNil) σ H Q)) tNext)))))
/-! _law_ties(_law_state): 0 _law_state, 1 _law_names, 2 _law_found, 3 _law_pair, 4 _law_strength -/
def t_l_ties (K : PySem.W.Frag) (E : XK) : TS :=
  (tSeq (tAsg (tCB rListDU (tCons (tOp (rIxU K) (tV 0) (tC (.int 0))) tNil)) (gName 1))
  (tSeq (tAsg (tLst tNil) (gName 2))
  (tSeq (forS [(true, iItemsU (tOp (rIxU K) (tV 0) (tC (.int 1))))] (gTup K 2 (gCons (gName 3) (gCons (gName 4) gNil))) (uIf (tBo (tOp rLtU (tBM K "list" (rIndex K) (tV 1) (tCons (tOp (rIxU K) (tV 3) (tC (.int 0))) tNil)) (tBM K "list" (rIndex K) (tV 1) (tCons (tOp (rIxU K) (tV 3) (tC (.int 1))) tNil)))) (tDrop (tBM K "list" rAppend (tV 2) (tCons (tTup (tCons (tOp (rIxU K) (tV 3) (tC (.int 0))) (tCons (tOp (rIxU K) (tV 3) (tC (.int 1))) (tCons (tV 4) tNil)))) tNil))) (tDrop (tBM K "list" rAppend (tV 2) (tCons (tTup (tCons (tOp (rIxU K) (tV 3) (tC (.int 1))) (tCons (tOp (rIxU K) (tV 3) (tC (.int 0))) (tCons (tV 4) tNil)))) tNil)))))
  (tRet (tV 2)))))
/-! _law_shows(_law_web, _law_state): 0 _law_web, 1 _law_state, 2 _law_names, 3 _law_strong, 4 _law_name_here, 5 _law_pair, 6 _law_strength, 7 _law_near, 8 _law_due, 9 _law_other -/
def t_l_shows (K : PySem.W.Frag) (E : XK) : TS :=
  (tSeq (tAsg (tCB rListDU (tCons (tOp (rIxU K) (tV 1) (tC (.int 0))) tNil)) (gName 2))
  (tSeq (uIf (uOr (tBo (tOp (rNeU K) (tMethS (He.ga K "Web") "names" (sp_Web_names K) [] (fun _ => E) (tV 0) tNil) (tV 2))) (tBo (tOp (rNeU K) (tMethS (He.ga K "Web") "ties" (sp_Web_ties K) [] (fun _ => E) (tV 0) tNil) (tCallSD (sp_l_ties K) [] (fun _ => E) (tCons (tV 1) tNil))))) (tRet (tC (.bl false))) tNext)
  (tSeq (uIf (uOr (tBo (tOp (rNeU K) (tMethS (He.ga K "Web") "total" (sp_Web_total K) [] (fun _ => E) (tV 0) tNil) (tSumVals (tOp (rIxU K) (tV 1) (tC (.int 0)))))) (tBo (tOp (rNeU K) (tMethS (He.ga K "Web") "force" (sp_Web_force K) [] (fun _ => E) (tV 0) tNil) (tSumVals (tOp (rIxU K) (tV 1) (tC (.int 1))))))) (tRet (tC (.bl false))) tNext)
  (tSeq (tAsg (fun σ H Q => tDNewK σ H Q ∨ tDNewT σ H Q) (gName 3))
  (tSeq (forS [(true, iItemsU (tOp (rIxU K) (tV 1) (tC (.int 1))))] (gTup K 2 (gCons (gName 5) (gCons (gName 6) gNil))) (tSeq (tAsg (tV 6) (gSub (tV 3) (tV 5) rSetU))
  (tAsg (tV 6) (gSub (tV 3) (tTup (tCons (tOp (rIxU K) (tV 5) (tC (.int 1))) (tCons (tOp (rIxU K) (tV 5) (tC (.int 0))) tNil))) rSetU))))
  (tSeq (forS (seqOr K true (tV 2)) (gName 4) (tSeq (tAsg (tMethS (He.ga K "Web") "near" (sp_Web_near K) [] (fun _ => E) (tV 0) (tCons (tV 4) tNil)) (gName 7))
  (tSeq (lcS (seqOr K true (tV 2)) (gName 9) (tBo (tOp (rInU K) (tTup (tCons (tV 4) (tCons (tV 9) tNil))) (tV 3))) (tTup (tCons (tV 9) (tCons (tOp (rIxU K) (tV 3) (tTup (tCons (tV 4) (tCons (tV 9) tNil)))) tNil))) [9] 8)
  (tSeq (uIf (uOr (tBo (tOp (rNeU K) (tMethS (He.ga K "Web") "weight" (sp_Web_weight K) [] (fun _ => E) (tV 0) (tCons (tV 4) tNil)) (tOp (rIxU K) (tOp (rIxU K) (tV 1) (tC (.int 0))) (tV 4)))) (tBo (tOp (rNeU K) (lcE (seqOr K true (tV 7)) (gName 9) tYes (tTup (tCons (tV 9) (tCons (tOp (rIxU K) (tV 7) (tV 9)) tNil))) [9]) (tV 8)))) (tRet (tC (.bl false))) tNext)
  (forS (seqOr K true (tV 2)) (gName 9) (uIf (tBo (tOp (rNeU K) (tMethS (He.ga K "Web") "strength" (sp_Web_strength K) [] (fun _ => E) (tV 0) (tCons (tV 4) (tCons (tV 9) tNil))) (tBM K "dict" rDGetM (tV 3) (tCons (tTup (tCons (tV 4) (tCons (tV 9) tNil))) (tCons (tC (.int 0)) tNil))))) (tRet (tC (.bl false))) tNext))))))
  (tRet (tC (.bl true)))))))))
/-! _law_done(_law_web, _law_deed): 0 _law_web, 1 _law_deed, 2 _law_e, 3 _law_told -/
def t_l_done (K : PySem.W.Frag) (E : XK) : TS :=
  (tSeq (uTry K (.ref (He.ga K "CutError")) 2 (fun W => (uIf (tBo (tOp (rEqU K) (tOp (rIxU K) (tV 1) (tC (.int 0))) (tC (.str "put")))) (tAsg (tMethS (He.ga K "Web") "put" (sp_Web_put K) [] (eW W) (tV 0) (tCons (tOp (rIxU K) (tV 1) (tC (.int 1))) (tCons (tOp (rIxU K) (tV 1) (tC (.int 2))) tNil))) (gName 3)) (uIf (tBo (tOp (rEqU K) (tOp (rIxU K) (tV 1) (tC (.int 0))) (tC (.str "weigh")))) (tAsg (tMethS (He.ga K "Web") "weigh" (sp_Web_weigh K) [] (eW W) (tV 0) (tCons (tOp (rIxU K) (tV 1) (tC (.int 1))) (tCons (tOp (rIxU K) (tV 1) (tC (.int 2))) tNil))) (gName 3)) (uIf (tBo (tOp (rEqU K) (tOp (rIxU K) (tV 1) (tC (.int 0))) (tC (.str "drop")))) (tAsg (tMethS (He.ga K "Web") "drop" (sp_Web_drop K) [] (eW W) (tV 0) (tCons (tOp (rIxU K) (tV 1) (tC (.int 1))) tNil)) (gName 3)) (uIf (tBo (tOp (rEqU K) (tOp (rIxU K) (tV 1) (tC (.int 0))) (tC (.str "tie")))) (tAsg (tMethS (He.ga K "Web") "tie" (sp_Web_tie K) [] (eW W) (tV 0) (tCons (tOp (rIxU K) (tV 1) (tC (.int 1))) (tCons (tOp (rIxU K) (tV 1) (tC (.int 2))) (tCons (tOp (rIxU K) (tV 1) (tC (.int 3))) tNil)))) (gName 3)) (uIf (tBo (tOp (rEqU K) (tOp (rIxU K) (tV 1) (tC (.int 0))) (tC (.str "more")))) (tAsg (tMethS (He.ga K "Web") "more" (sp_Web_more K) [] (eW W) (tV 0) (tCons (tOp (rIxU K) (tV 1) (tC (.int 1))) (tCons (tOp (rIxU K) (tV 1) (tC (.int 2))) (tCons (tOp (rIxU K) (tV 1) (tC (.int 3))) tNil)))) (gName 3)) (tAsg (tMethS (He.ga K "Web") "untie" (sp_Web_untie K) [] (eW W) (tV 0) (tCons (tOp (rIxU K) (tV 1) (tC (.int 1))) (tCons (tOp (rIxU K) (tV 1) (tC (.int 2))) tNil))) (gName 3)))))))) (fun a c d => (tRet (tCallE (spE_l_named K a c d) (tCons (tV 2) tNil)))) (fun _ => E))
  (tSeq (uIf (tBo (tOp rIsU (tV 3) (tC .non))) (tRet (tC .non)) tNext)
  (tRet (tTup (tCons (tC (.str "odd")) (tCons (tV 3) tNil))))))
/-! _law_alike(_law_found, _law_due): 0 _law_found, 1 _law_due -/
def t_l_alike (K : PySem.W.Frag) (E : XK) : TS :=
  (tSeq (uIf (tBo (tOp (rNeU K) (tV 0) (tV 1))) (tRet (tC (.bl false))) tNext)
  (tRet (tOrU (tOp rIsU (tV 1) (tC .non)) (tOp (rEqU K) (tCB (rIsiU K) (tCons (tOp (rIxU K) (tV 0) (tUn rNegU (tC (.int 1)))) (tCons (tC (.ty "bool")) tNil))) (tCB (rIsiU K) (tCons (tOp (rIxU K) (tV 1) (tUn rNegU (tC (.int 1)))) (tCons (tC (.ty "bool")) tNil)))))))
/-! _law_any_name(_law_state, _law_xs): 0 _law_state, 1 _law_xs, 2 _law_names -/
def t_l_any_name (K : PySem.W.Frag) (E : XK) : TS :=
  (tSeq (tAsg (tCB rListDU (tCons (tOp (rIxU K) (tV 0) (tC (.int 0))) tNil)) (gName 2))
  (tSeq (uIf (tBo (tOp rLtU (tOp (rIxU K) (tV 1) (tC (.int 0))) (tC (.int 2)))) (tRet (tCallSD (sp_l_odd K) [] (fun _ => E) (tCons (tOp (rIxU K) (tV 1) (tC (.int 1))) tNil))) tNext)
  (tSeq (uIf (uOr (tBo (tOp rLtU (tOp (rIxU K) (tV 1) (tC (.int 0))) (tC (.int 4)))) (tBo (tOp (rEqU K) (tV 2) (tLst tNil)))) (tRet (tCallSD (sp_l_name K) [] (fun _ => E) (tCons (tOp (rIxU K) (tV 1) (tC (.int 1))) tNil))) tNext)
  (tRet (tOp (rIxU K) (tV 2) (tOp rModU (tOp (rIxU K) (tV 1) (tC (.int 1))) (tCB (rLenU K) (tCons (tV 2) tNil))))))))
/-! _law_drawn(_law_state, _law_xs): 0 _law_state, 1 _law_xs, 2 _law_one, 3 _law_other, 4 _law_number_here, 5 _law_ties_here -/
def t_l_drawn (K : PySem.W.Frag) (E : XK) : TS :=
  (tSeq (tAsg (tCallSD (sp_l_any_name K) [] (fun _ => E) (tCons (tV 0) (tCons (tSl (rSlU K) (tV 1) (tPart (tC (.int 1))) (tPart (tC (.int 3)))) tNil))) (gName 2))
  (tSeq (tAsg (tCallSD (sp_l_any_name K) [] (fun _ => E) (tCons (tV 0) (tCons (tSl (rSlU K) (tV 1) (tPart (tC (.int 3))) (tPart (tC (.int 5)))) tNil))) (gName 3))
  (tSeq (tAsg (tCallSD (sp_l_number K) [] (fun _ => E) (tCons (tSl (rSlU K) (tV 1) (tPart (tC (.int 5))) (tPart (tC (.int 7)))) tNil)) (gName 4))
  (tSeq (tAsg (tCB rListDU (tCons (tOp (rIxU K) (tV 0) (tC (.int 1))) tNil)) (gName 5))
  (tCut (uIf (uAnd (tBo (tOp (rNeU K) (tV 5) (tLst tNil))) (uAnd (tBo (tOp rGtU (tOp (rIxU K) (tV 1) (tC (.int 0))) (tC (.int 13)))) (tBo (tOp rGtU (tOp (rIxU K) (tV 1) (tC (.int 1))) (tC (.int 1)))))) (tSeq (tAsg (tOp (rIxU K) (tV 5) (tOp rModU (tOp (rIxU K) (tV 1) (tC (.int 2))) (tCB (rLenU K) (tCons (tV 5) tNil)))) (gTup K 2 (gCons (gName 2) (gCons (gName 3) gNil))))
  (uIf (tBo (tOp (rEqU K) (tOp rModU (tOp (rIxU K) (tV 1) (tC (.int 0))) (tC (.int 2))) (tC (.int 0)))) (tPar 2 3 (tCons (tV 3) (tCons (tV 2) tNil))) tNext)) tNext)
  (tSeq (uIf (tBo (tOp rLtU (tOp (rIxU K) (tV 1) (tC (.int 0))) (tC (.int 5)))) (tRet (tTup (tCons (tC (.str "put")) (tCons (tV 2) (tCons (tV 4) tNil))))) tNext)
  (tSeq (uIf (tBo (tOp rLtU (tOp (rIxU K) (tV 1) (tC (.int 0))) (tC (.int 7)))) (tRet (tTup (tCons (tC (.str "weigh")) (tCons (tV 2) (tCons (tV 4) tNil))))) tNext)
  (tSeq (uIf (tBo (tOp (rEqU K) (tOp (rIxU K) (tV 1) (tC (.int 0))) (tC (.int 7)))) (tRet (tTup (tCons (tC (.str "drop")) (tCons (tV 2) tNil)))) tNext)
  (tSeq (uIf (uOr (tBo (tOp rLtU (tOp (rIxU K) (tV 1) (tC (.int 0))) (tC (.int 14)))) (tBo (tOp (rEqU K) (tOp (rIxU K) (tV 1) (tC (.int 0))) (tC (.int 17))))) (tRet (tTup (tCons (tC (.str "tie")) (tCons (tV 2) (tCons (tV 3) (tCons (tV 4) tNil)))))) tNext)
  (tSeq (uIf (tBo (tOp (rEqU K) (tOp (rIxU K) (tV 1) (tC (.int 0))) (tC (.int 16)))) (tRet (tTup (tCons (tC (.str "untie")) (tCons (tV 2) (tCons (tV 3) tNil))))) tNext)
  (tRet (tTup (tCons (tC (.str "more")) (tCons (tV 2) (tCons (tV 3) (tCons (tV 4) tNil))))))))))))))))
/-! _law_asked(_law_web, _law_way, _law_one, _law_other): 0 _law_web, 1 _law_way, 2 _law_one, 3 _law_other, 4 _law_e -/
def t_l_asked (K : PySem.W.Frag) (E : XK) : TS :=
  (tSeq (uTry K (.ref (He.ga K "CutError")) 4 (fun W => (uIf (tBo (tOp (rEqU K) (tV 1) (tC (.int 0)))) (tDrop (tMethS (He.ga K "Web") "weight" (sp_Web_weight K) [] (eW W) (tV 0) (tCons (tV 2) tNil))) (uIf (tBo (tOp (rEqU K) (tV 1) (tC (.int 1)))) (tDrop (tMethS (He.ga K "Web") "near" (sp_Web_near K) [] (eW W) (tV 0) (tCons (tV 2) tNil))) (tDrop (tMethS (He.ga K "Web") "strength" (sp_Web_strength K) [] (eW W) (tV 0) (tCons (tV 2) (tCons (tV 3) tNil))))))) (fun a c d => (tRet (tCallE (spE_l_named K a c d) (tCons (tV 4) tNil)))) (fun _ => E))
  (tRet (tC .non)))
/-! _law_questions(_law_web, _law_state, _law_one, _law_other): 0 _law_web, 1 _law_state, 2 _law_one, 3 _law_other, 4 _law_way, 5 _law_due, 6 _law_name_here -/
def t_l_questions (K : PySem.W.Frag) (E : XK) : TS :=
  (tSeq (forS [(false, iRng1 (tCons (tC (.int 3)) tNil))] (gName 4) (tSeq (tAsg (tC .non) (gName 5))
  (tSeq (forS (seqOr K true (tSl (rSlU K) (tLst (tCons (tV 2) (tCons (tV 3) tNil))) tNoPart (tPart (tOp (rAddU K) (tC (.int 1)) (tCB rIntU (tCons (tOp (rEqU K) (tV 4) (tC (.int 2))) tNil)))))) (gName 6) (uIf (uAnd (tBo (tOp rIsU (tV 5) (tC .non))) (uOr (tNot (tTru K (tCB (rIsiU K) (tCons (tV 6) (tCons (tC (.ty "str")) tNil))))) (tBo (tOp (rNinU K) (tV 6) (tOp (rIxU K) (tV 1) (tC (.int 0))))))) (tAsg (tTup (tCons (tC (.str "place")) (tCons (tV 6) tNil))) (gName 5)) tNext))
  (uIf (tNot (tTru K (tCallSD (sp_l_alike K) [] (fun _ => E) (tCons (tCallSD (sp_l_asked K) [] (fun _ => E) (tCons (tV 0) (tCons (tV 4) (tCons (tV 2) (tCons (tV 3) tNil))))) (tCons (tV 5) tNil))))) (tRet (tC (.bl false))) tNext))))
  (tRet (tC (.bl true))))
/-! law(_law_script): 0 _law_script, 1 _law_web, 2 _law_state, 3 _law_deed, 4 _law_cell, 5 _law_xs, 6 _law_fault_here -/
def t_law (K : PySem.W.Frag) (E : XK) : TS :=
  (tSeq (tAsg (tMakeS (He.ga K "Web") (sp_Web_init K) [] (fun _ => E) tNil) (gName 1))
  (tSeq (tAsg (tLst (tCons (fun σ H Q => tDNewK σ H Q ∨ tDNewT σ H Q) (tCons (fun σ H Q => tDNewK σ H Q ∨ tDNewT σ H Q) tNil))) (gName 2))
  (tSeq (forS (seqOr K false (tLst (tCons (tTup (tCons (tC (.str "put")) (tCons (tC (.str "b")) (tCons (tC (.int 3)) tNil)))) (tCons (tTup (tCons (tC (.str "put")) (tCons (tC (.str "abc")) (tCons (tC (.int 2)) tNil)))) (tCons (tTup (tCons (tC (.str "put")) (tCons (tC (.str "zz")) (tCons (tC (.int 9)) tNil)))) (tCons (tTup (tCons (tC (.str "tie")) (tCons (tC (.str "zz")) (tCons (tC (.str "b")) (tCons (tC (.int 4)) tNil))))) (tCons (tTup (tCons (tC (.str "put")) (tCons (tC (.str "a")) (tCons (tC (.int 1)) tNil)))) tNil))))))) (gName 3) (tSeq (uIf (tBo (tOp rIsnU (tCallSD (sp_l_done K) [] (fun _ => E) (tCons (tV 1) (tCons (tV 3) tNil))) (tC .non))) (tRet (tC (.bl false))) tNext)
  (tDrop (tCallSD (sp_l_apply K) [] (fun _ => E) (tCons (tV 2) (tCons (tV 3) tNil))))))
  (tSeq (forS (seqOr K false (tOp (rAddU K) (tSl (rSlU K) (tV 0) tNoPart (tPart (tC (.int 40)))) (tLst (tCons (tC (.int 1)) (tCons (tC (.int 2)) tNil))))) (gName 4) (tSeq (tAsg (tCallSD (sp_l_row K) [] (fun _ => E) (tCons (tV 4) (tCons (tLst (tCons (tC (.int 18)) (tCons (tC (.int 12)) (tCons (tC (.int 420)) (tCons (tC (.int 12)) (tCons (tC (.int 420)) (tCons (tOp rPowU (tC (.int 10)) (tC (.int 9))) (tCons (tC (.int 14)) tNil)))))))) tNil))) (gName 5))
  (tSeq (tAsg (tCallSD (sp_l_drawn K) [] (fun _ => E) (tCons (tV 2) (tCons (tV 5) tNil))) (gName 3))
  (tSeq (tAsg (tCallSD (sp_l_fault K) [] (fun _ => E) (tCons (tV 2) (tCons (tV 3) tNil))) (gName 6))
  (tSeq (uIf (tNot (tTru K (tCallSD (sp_l_alike K) [] (fun _ => E) (tCons (tCallSD (sp_l_done K) [] (fun _ => E) (tCons (tV 1) (tCons (tV 3) tNil))) (tCons (tV 6) tNil))))) (tRet (tC (.bl false))) tNext)
  (tCut (uIf (tBo (tOp rIsU (tV 6) (tC .non))) (tDrop (tCallSD (sp_l_apply K) [] (fun _ => E) (tCons (tV 2) (tCons (tV 3) tNil)))) tNext)
  (tSeq (uIf (tNot (tTru K (tCallSD (sp_l_shows K) [] (fun _ => E) (tCons (tV 1) (tCons (tV 2) tNil))))) (tRet (tC (.bl false))) tNext)
  (tSeq (uIf (tNot (tTru K (tCallSD (sp_l_questions K) [] (fun _ => E) (tCons (tV 1) (tCons (tV 2) (tCons (tOp (rIxU K) (tV 3) (tC (.int 1))) (tCons (tOp (rIxU K) (tV 3) (tUn rNegU (tC (.int 1)))) tNil))))))) (tRet (tC (.bl false))) tNext)
  (uIf (tNot (tTru K (tCallSD (sp_l_questions K) [] (fun _ => E) (tCons (tV 1) (tCons (tV 2) (tCons (tCallSD (sp_l_odd K) [] (fun _ => E) (tCons (tOp (rIxU K) (tV 5) (tC (.int 2))) tNil)) (tCons (tOp (rIxU K) (tV 3) (tC (.int 1))) tNil))))))) (tRet (tC (.bl false))) tNext)))))))))
  (tRet (tC (.bl true)))))))
theorem pure_ex1 {K C fld s a b H Q} (h : P_ex1 K C fld a b H Q) : (tSeq (tDrop (tVeI K (tCons (tV 0) (tCons (tC (.str s)) tNil))))
  (tOst K fld (tV 0) (tV 1))) { nx := fun _ H' => Q .non H', rt := Q } [some a, some b] H := by
  obtain ⟨e, rfl, T, na, he, k⟩ := h
  refine ⟨e, C, [.str s], rfl, (by show 1 ≤ 1000; decide), T, he, ?_⟩
  refine ⟨e, C, rfl, T, na, .inl ⟨he, fun dx n1 n2 => ?_⟩⟩
  exact k dx _ n1 n2 rfl
theorem pure_ex2 {K C f1 f2 s a b c H Q} (h : P_ex2 K C f1 f2 a b c H Q) : (tSeq (tDrop (tVeI K (tCons (tV 0) (tCons (tC (.str s)) tNil))))
  (tSeq (tOst K f1 (tV 0) (tV 1)) (tOst K f2 (tV 0) (tV 2)))) { nx := fun _ H' => Q .non H', rt := Q } [some a, some b, some c] H := by
  obtain ⟨e, rfl, T, na, nb, he, k⟩ := h
  refine ⟨e, C, [.str s], rfl, (by show 1 ≤ 1000; decide), T, he, ?_⟩
  refine ⟨e, C, rfl, T, na, .inl ⟨he, fun dx n1 n2 => ?_⟩⟩
  refine ⟨e, C, rfl, T, nb, .inr ⟨dx, [(f1, b)], upd_same, ?_, (by show 1 ≤ 900; decide), ?_⟩⟩
  · rw [upd_ne n2, upd_same]
  · exact k dx _ n1 n2 rfl
/-- raise C(b): what the catcher sees -/
theorem raise1 {K : PySem.W.Frag} {C : Addr} {fld : Str} {b : V} {H : Hp} {sp : Sp} {E : XK} (hsp : ∀ a b H Q E, P_ex1 K C fld a b H Q → sp [a, b] H Q E) (T : OexC K C) (nA : NoAttr K C fld)
    (k : ∀ d H', H d = none → Same H H' → H' d = some (.xd [(fld, b)]) → E (.ref C) (some d) H') :
    [b].length ≤ 1000 ∧ ∀ a, H a = none → sp (.ref a :: ([b] ++ [])) (upd H a (exo a C none)) (fun v H2 => v = .non ∧ ∃ (d : Addr) (fs : List (Str × V)), H2 a = some (exo a C (some d)) ∧ H2 d = some (exd d fs) ∧ H d = none ∧ E (.ref C) (some d) (upd (del H2 a) d (.xd fs))) (fun _ _ _ => False) := by
  refine ⟨(by show 1 ≤ 1000; decide), fun a na => hsp _ _ _ _ _ ⟨a, rfl, T, nA, upd_same, fun dx H' n1 n2 e => ?_⟩⟩
  subst e
  rw [upd_ne n2] at n1
  refine ⟨rfl, dx, [(fld, b)], upd_same, by rw [upd_ne n2, upd_same], n1, k dx _ n1 (fun c o h => ?_) upd_same⟩
  have c1 : c ≠ dx := fun z => by rw [z, n1] at h; cases h
  have c2 : c ≠ a := fun z => by rw [z, na] at h; cases h
  rw [upd_ne c1, del_ne c2, upd_ne c2, upd_ne c1, upd_ne c2]
  exact h
/-- raise C(b, b2) -/
theorem raise2 {K : PySem.W.Frag} {C : Addr} {f g : Str} {b b2 : V} {H : Hp} {sp : Sp} {E : XK} (hsp : ∀ a b b2 H Q E, P_ex2 K C f g a b b2 H Q → sp [a, b, b2] H Q E) (T : OexC K C) (nA : NoAttr K C f) (nB : NoAttr K C g)
    (k : ∀ d H', H d = none → Same H H' → H' d = some (.xd [(g, b2), (f, b)]) → E (.ref C) (some d) H') :
    [b, b2].length ≤ 1000 ∧ ∀ a, H a = none → sp (.ref a :: ([b, b2] ++ [])) (upd H a (exo a C none)) (fun v H2 => v = .non ∧ ∃ (d : Addr) (fs : List (Str × V)), H2 a = some (exo a C (some d)) ∧ H2 d = some (exd d fs) ∧ H d = none ∧ E (.ref C) (some d) (upd (del H2 a) d (.xd fs))) (fun _ _ _ => False) := by
  refine ⟨(by show 2 ≤ 1000; decide), fun a na => hsp _ _ _ _ _ _ ⟨a, rfl, T, nA, nB, upd_same, fun dx H' n1 n2 e => ?_⟩⟩
  subst e
  rw [upd_ne n2] at n1
  refine ⟨rfl, dx, [(g, b2), (f, b)], by rw [upd_ne n2.symm, upd_same], upd_same, n1, k dx _ n1 (fun c o h => ?_) upd_same⟩
  have c1 : c ≠ dx := fun z => by rw [z, n1] at h; cases h
  have c2 : c ≠ a := fun z => by rw [z, na] at h; cases h
  rw [upd_ne c1, del_ne c2, upd_ne c1, upd_ne c2, upd_ne c1, upd_ne c2]
  exact h

theorem pure_NoName_init {K a b H Q E} (h : P_NoName_init K a b H Q E) : t_NoName_init K E { nx := fun _ H' => Q .non H', rt := Q } [some a, some b] H := pure_ex1 h
theorem pure_NoWeight_init {K a b H Q E} (h : P_NoWeight_init K a b H Q E) : t_NoWeight_init K E { nx := fun _ H' => Q .non H', rt := Q } [some a, some b] H := pure_ex1 h
theorem pure_NoStrength_init {K a b H Q E} (h : P_NoStrength_init K a b H Q E) : t_NoStrength_init K E { nx := fun _ H' => Q .non H', rt := Q } [some a, some b] H := pure_ex1 h
theorem pure_NoPlace_init {K a b H Q E} (h : P_NoPlace_init K a b H Q E) : t_NoPlace_init K E { nx := fun _ H' => Q .non H', rt := Q } [some a, some b] H := pure_ex1 h
theorem pure_Same_init {K a b H Q E} (h : P_Same_init K a b H Q E) : t_Same_init K E { nx := fun _ H' => Q .non H', rt := Q } [some a, some b] H := pure_ex1 h
theorem pure_Taken_init {K a b H Q E} (h : P_Taken_init K a b H Q E) : t_Taken_init K E { nx := fun _ H' => Q .non H', rt := Q } [some a, some b] H := pure_ex1 h
theorem pure_NoTie_init {K a b c H Q E} (h : P_NoTie_init K a b c H Q E) : t_NoTie_init K E { nx := fun _ H' => Q .non H', rt := Q } [some a, some b, some c] H := pure_ex2 h
theorem pure_Tied_init {K a b c H Q E} (h : P_Tied_init K a b c H Q E) : t_Tied_init K E { nx := fun _ H' => Q .non H', rt := Q } [some a, some b, some c] H := pure_ex2 h
theorem pure_TooMany_init {K a b H Q E} (h : P_TooMany_init K a b H Q E) : t_TooMany_init K E { nx := fun _ H' => Q .non H', rt := Q } [some a, some b] H := pure_ex1 h
theorem pure_Beyond_init {K a b H Q E} (h : P_Beyond_init K a b H Q E) : t_Beyond_init K E { nx := fun _ H' => Q .non H', rt := Q } [some a, some b] H := pure_ex1 h
/-- raise C(b) with its wish -/
def Rz0 (K : PySem.W.Frag) (E : XK) (H : Hp) (r : Str × List (Str × V)) : Prop := ∀ d H', H d = none → Same H H' → H' d = some (.xd r.2) → E (.ref (He.ga K r.1)) (some d) H'
theorem rz1 {K : PySem.W.Frag} {c f : Str} {b : V} {H : Hp} {sp : Sp} {E : XK} (ek : EK K) (he : (c, [f]) ∈ errsL) (hsp : ∀ a b H Q E, P_ex1 K (He.ga K c) f a b H Q → sp [a, b] H Q E) (h : Rz0 K E H (c, [(f, b)])) :
    [b].length ≤ 1000 ∧ ∀ a, H a = none → sp (.ref a :: ([b] ++ [])) (upd H a (exo a (He.ga K c) none)) (fun v H2 => v = .non ∧ ∃ (d : Addr) (fs : List (Str × V)), H2 a = some (exo a (He.ga K c) (some d)) ∧ H2 d = some (exd d fs) ∧ H d = none ∧ E (.ref (He.ga K c)) (some d) (upd (del H2 a) d (.xd fs))) (fun _ _ _ => False) :=
  raise1 hsp (ek.oex _ he) (ek.na he (by simp)) fun d H' n s e => h d H' n s e
theorem rz2 {K : PySem.W.Frag} {c f g : Str} {b b2 : V} {H : Hp} {sp : Sp} {E : XK} (ek : EK K) (he : (c, [f, g]) ∈ errsL) (hsp : ∀ a b b2 H Q E, P_ex2 K (He.ga K c) f g a b b2 H Q → sp [a, b, b2] H Q E) (h : Rz0 K E H (c, [(g, b2), (f, b)])) :
    [b, b2].length ≤ 1000 ∧ ∀ a, H a = none → sp (.ref a :: ([b, b2] ++ [])) (upd H a (exo a (He.ga K c) none)) (fun v H2 => v = .non ∧ ∃ (d : Addr) (fs : List (Str × V)), H2 a = some (exo a (He.ga K c) (some d)) ∧ H2 d = some (exd d fs) ∧ H d = none ∧ E (.ref (He.ga K c)) (some d) (upd (del H2 a) d (.xd fs))) (fun _ _ _ => False) :=
  raise2 hsp (ek.oex _ he) (ek.na he (by simp)) (ek.na he (by simp)) fun d H' n s e => h d H' n s e

theorem pure_is_whole {K a b c H Q E} (h : P_is_whole K a b c H Q E) : t_is_whole K E { nx := fun _ H' => Q .non H', rt := Q } [some a, some b, some c] H := by
  obtain ⟨t, lo, hi, ht, rfl, rfl, q⟩ := h
  rcases ht.int_or with ⟨i, rfl, rfl⟩ | ⟨ni, h1⟩
  · refine isiN ht (b := true) (by decide +kernel) ?_
    ((try (conv => whnf)); repeat (first | (refine cndT rfl ?_; (try (conv => whnf))) | (refine cndF rfl ?_; (try (conv => whnf)))))
    refine isiN ht (b := false) (by decide +kernel) ?_
    ((try (conv => whnf)); repeat (first | (refine cndT rfl ?_; (try (conv => whnf))) | (refine cndF rfl ?_; (try (conv => whnf)))))
    refine cndD (fun h => ?_) (fun h => ?_)
    · have e : wholeV (.int i) lo hi = decide (i ≤ hi) := by simp [wholeV, h]
      rw [e] at q
      ((try (conv => whnf)); repeat (first | (refine cndT rfl ?_; (try (conv => whnf))) | (refine cndF rfl ?_; (try (conv => whnf)))))
      exact q
    · have e : wholeV (.int i) lo hi = false := by simp [wholeV, h]
      rw [e] at q
      exact q
  · have e : wholeV a lo hi = false := by
      unfold wholeV
      split
      · exact absurd rfl (ni _)
      · rfl
    rw [e] at q
    rcases h1 with h1 | ⟨h1, h2⟩
    · refine isiN ht h1 ?_
      ((try (conv => whnf)); repeat (first | (refine cndT rfl ?_; (try (conv => whnf))) | (refine cndF rfl ?_; (try (conv => whnf)))))
      exact q
    · refine isiN ht h1 ?_
      ((try (conv => whnf)); repeat (first | (refine cndT rfl ?_; (try (conv => whnf))) | (refine cndF rfl ?_; (try (conv => whnf)))))
      refine isiN ht h2 ?_
      ((try (conv => whnf)); repeat (first | (refine cndT rfl ?_; (try (conv => whnf))) | (refine cndF rfl ?_; (try (conv => whnf)))))
      exact q
theorem alpha (c : Nat) : c ∈ (Str.ofString "abcdefghijklmnopqrstuvwxyz").cps.toList ↔ (97 ≤ c ∧ c ≤ 122) := by
  have e : (Str.ofString "abcdefghijklmnopqrstuvwxyz").cps.toList = List.range' 97 26 := by decide +kernel
  rw [e, List.mem_range'_1]
  omega
theorem nameS_bad {z : Str} (h : ¬ ((1 : Int) ≤ (z.length : Nat)) ∨ ¬ ((z.length : Nat) : Int) ≤ 8) : nameS z = false := by
  unfold nameS
  rcases h with h | h
  · rw [decide_eq_false (by omega)]; rfl
  · rw [decide_eq_false (p := z.length ≤ 8) (by omega)]; simp
theorem nameS_ok {z : Str} (h : (1 : Int) ≤ (z.length : Nat)) (h2 : ((z.length : Nat) : Int) ≤ 8) : (z.cps.toList.map fun c => decide (97 ≤ c) && decide (c ≤ 122)).all id = nameS z := by
  unfold nameS
  rw [decide_eq_true (by omega), decide_eq_true (p := z.length ≤ 8) (by omega), List.all_map]
  rfl
theorem pure_is_name {K a H Q E} (h : P_is_name K a H Q E) : t_is_name K E { nx := fun _ H' => Q .non H', rt := Q } [some a, none] H := by
  obtain ⟨t, ht, hl, q⟩ := h
  rcases ht.str_or with ⟨z, rfl, rfl⟩ | ⟨nz, h1⟩
  · have hz := hl z rfl
    have hz2 : z.length ≤ sizeLine := by rw [sizeLine_eq]; omega
    refine isiN ht (b := true) (by decide +kernel) ?_
    ((try (conv => whnf)); repeat (first | (refine cndT rfl ?_; (try (conv => whnf))) | (refine cndF rfl ?_; (try (conv => whnf)))))
    refine ⟨hz2, ?_⟩
    ((try (conv => whnf)); repeat (first | (refine cndT rfl ?_; (try (conv => whnf))) | (refine cndF rfl ?_; (try (conv => whnf)))))
    (refine cndB (fun c1 => ?_) (fun c1 => ?_) <;> (try simp only [Bool.not_eq_eq_eq_not, Bool.not_true, Bool.not_false, decide_eq_true_eq, decide_eq_false_iff_not, Int.not_le, Int.not_lt] at c1) <;> ((try (conv => whnf)); repeat (first | (refine cndT rfl ?_; (try (conv => whnf))) | (refine cndF rfl ?_; (try (conv => whnf))))))
    · (refine cndB (fun c2 => ?_) (fun c2 => ?_) <;> (try simp only [Bool.not_eq_eq_eq_not, Bool.not_true, Bool.not_false, decide_eq_true_eq, decide_eq_false_iff_not, Int.not_le, Int.not_lt] at c2) <;> ((try (conv => whnf)); repeat (first | (refine cndT rfl ?_; (try (conv => whnf))) | (refine cndF rfl ?_; (try (conv => whnf))))))
      · have q2 := q H (Same.refl _)
        rw [show nameV (.str z) = false from nameS_bad (.inr (by omega))] at q2
        exact q2
      · left
        ((try (conv => whnf)); repeat (first | (refine cndT rfl ?_; (try (conv => whnf))) | (refine cndF rfl ?_; (try (conv => whnf)))))
        refine lcStr (fun c => .bl (decide (97 ≤ c) && decide (c ≤ 122))) hz (fun c H' s R k => ⟨rfl, ?_⟩) (fun D H' hD s => ?_)
        · have k := k H' (Same.refl _)
          have e : (decide (97 ≤ c) && decide (c ≤ 122)) = (!(Builtin.Str.occurrences (Str.ofString "abcdefghijklmnopqrstuvwxyz") ⟨#[c]⟩ 0 (Str.ofString "abcdefghijklmnopqrstuvwxyz").length 1).isEmpty) := by
            rw [PySem.StrLaws.found_one]
            by_cases e : 97 ≤ c ∧ c ≤ 122
            · rw [decide_eq_true ((alpha c).mpr e), decide_eq_true e.1, decide_eq_true e.2]; rfl
            · rw [decide_eq_false (fun z => e ((alpha c).mp z))]
              by_cases e1 : 97 ≤ c
              · rw [decide_eq_false (p := c ≤ 122) (fun z => e ⟨e1, z⟩)]; simp
              · rw [decide_eq_false e1]; rfl
          rw [e] at k
          exact k
        · have q2 := q H' s
          rw [show nameV (.str z) = nameS z from rfl, ← nameS_ok (by omega) (by omega)] at q2
          refine ⟨D, z.cps.toList.map (fun c => decide (97 ≤ c) && decide (c ≤ 122)), rfl, SqL.of ?_, q2⟩
          rw [hD, List.map_map]
          rfl
    · have q2 := q H (Same.refl _)
      rw [show nameV (.str z) = false from nameS_bad (.inl (by omega))] at q2
      exact q2
  · have e : nameV a = false := by
      unfold nameV
      split
      · exact absurd rfl (nz _)
      · rfl
    refine isiN ht h1 ?_
    have q2 := q H (Same.refl _)
    rw [e] at q2
    ((try (conv => whnf)); repeat (first | (refine cndT rfl ?_; (try (conv => whnf))) | (refine cndF rfl ?_; (try (conv => whnf)))))
    exact q2

section
variable {α κ : Type} [DecidableEq α] [DecidableEq κ]
theorem emb_vals (f : α → κ) (l : List (α × Int)) : (emb f l).map (·.2) = (l.map Prod.snd).map V.int := by
  unfold emb
  rw [List.map_map, List.map_map]
  rfl
theorem emb_len (f : α → κ) (l : List (α × Int)) : (emb f l).length = l.length := List.length_map _
end
theorem WebO.same {K H H' a p q W} (h : WebO K H a p q W) (s : Same H H') : WebO K H' a p q W := ⟨h.k, let ⟨dx, e⟩ := h.o; ⟨dx, s _ _ e⟩, s _ _ h.hv, s _ _ h.kn⟩
theorem webF_h {p q : Addr} : (webF p q).lookup ("heavy" : Str) = some (.ref p) := by
  unfold webF
  rw [List.lookup_cons, beq_self_eq_true]
theorem webF_k {p q : Addr} : (webF p q).lookup ("knots" : Str) = some (.ref q) := by
  unfold webF
  rw [List.lookup_cons, show ((("knots" : Str)) == ("heavy" : Str)) = false by decide +kernel, List.lookup_cons, beq_self_eq_true]
theorem webF_n {p q : Addr} {m : Str} (h1 : (m == ("heavy" : Str)) = false) (h2 : (m == ("knots" : Str)) = false) : (webF p q).lookup m = none := by
  unfold webF
  rw [List.lookup_cons, h1, List.lookup_cons, h2]
  rfl
theorem pure_Web_total {K a H Q E} (h : P_Web_total K a H Q E) : t_Web_total K E { nx := fun _ H' => Q .non H', rt := Q } [some a, none] H := by
  obtain ⟨x, p, q, W, rfl, hw, hn, k⟩ := h
  obtain ⟨dx, ho⟩ := hw.o
  ((try (conv => whnf)); repeat (first | (refine cndT rfl ?_; (try (conv => whnf))) | (refine cndF rfl ?_; (try (conv => whnf)))))
  refine ⟨p, _, hw.hv, trivial, fun od => ?_⟩
  (generalize hG : _root_.L2.upd _ p _ = HL; have b0 := butOf hG; have e0 := atOf hG; clear hG; ((try (conv => whnf)); repeat (first | (refine cndT rfl ?_; (try (conv => whnf))) | (refine cndF rfl ?_; (try (conv => whnf))))))
  refine ⟨x, _, dx, _, _, rfl, b0.at ho (fun e => by rw [e, hw.hv] at ho; cases ho), hw.k.cls, hw.k.nh, webF_h, ?_⟩
  ((try (conv => whnf)); repeat (first | (refine cndT rfl ?_; (try (conv => whnf))) | (refine cndF rfl ?_; (try (conv => whnf)))))
  refine ⟨p, od, rfl, .inl ⟨_, e0, ?_⟩⟩
  refine lcVals ?_ e0 (by rw [emb_len, sizeLine_eq]; omega) fun D H' hD s => ⟨s _ _ e0, ?_⟩
  · show 1 < 2; decide
  generalize hG : L2.upd _ p _ = G
  have s2 : Same H G := unlock hw.hv b0 s hG
  ((try (conv => whnf)); repeat (first | (refine cndT rfl ?_; (try (conv => whnf))) | (refine cndF rfl ?_; (try (conv => whnf)))))
  have hne : D ≠ p := fun e => by rw [e, s _ _ e0] at hD; cases hD
  refine ⟨D, W.hv.map Prod.snd, rfl, SqL.of ?_, k G s2⟩
  rw [← hG, upd_ne hne, hD, emb_vals]
theorem pure_Web_force {K a H Q E} (h : P_Web_force K a H Q E) : t_Web_force K E { nx := fun _ H' => Q .non H', rt := Q } [some a, none] H := by
  obtain ⟨x, p, q, W, rfl, hw, hn, k⟩ := h
  obtain ⟨dx, ho⟩ := hw.o
  ((try (conv => whnf)); repeat (first | (refine cndT rfl ?_; (try (conv => whnf))) | (refine cndF rfl ?_; (try (conv => whnf)))))
  refine ⟨q, _, hw.kn, trivial, fun od => ?_⟩
  (generalize hG : _root_.L2.upd _ q _ = HL; have b0 := butOf hG; have e0 := atOf hG; clear hG; ((try (conv => whnf)); repeat (first | (refine cndT rfl ?_; (try (conv => whnf))) | (refine cndF rfl ?_; (try (conv => whnf))))))
  refine ⟨x, _, dx, _, _, rfl, b0.at ho (fun e => by rw [e, hw.kn] at ho; cases ho), hw.k.cls, hw.k.nk, webF_k, ?_⟩
  ((try (conv => whnf)); repeat (first | (refine cndT rfl ?_; (try (conv => whnf))) | (refine cndF rfl ?_; (try (conv => whnf)))))
  refine ⟨q, od, rfl, .inr ⟨_, e0, ?_⟩⟩
  refine lcValsT ?_ e0 (by rw [emb_len, sizeLine_eq]; omega) fun D H' hD s => ⟨s _ _ e0, ?_⟩
  · show 1 < 2; decide
  generalize hG : L2.upd _ q _ = G
  have s2 : Same H G := unlock hw.kn b0 s hG
  ((try (conv => whnf)); repeat (first | (refine cndT rfl ?_; (try (conv => whnf))) | (refine cndF rfl ?_; (try (conv => whnf)))))
  have hne : D ≠ q := fun e => by rw [e, s _ _ e0] at hD; cases hD
  refine ⟨D, W.kn.map Prod.snd, rfl, SqL.of ?_, k G s2⟩
  rw [← hG, upd_ne hne, hD, emb_vals]
section
variable {α κ : Type} [DecidableEq α] [DecidableEq κ]
theorem emb_val {f : α → κ} (hf : ∀ a b, f a = f b → a = b) (l : List (α × Int)) (k : α) : valV (emb f l) (f k) = (getA l k).map V.int := by
  induction l with
  | nil => rfl
  | cons p l ih =>
    show valV ((f p.1, V.int p.2) :: emb f l) (f k) = _
    by_cases e : p.1 = k
    · rw [valV_pos (by show f p.1 = f k; rw [e])]
      unfold getA
      rw [List.find?_cons, decide_eq_true e]
      rfl
    · rw [valV_neg (by show ¬ f p.1 = f k; exact fun z => e (hf _ _ z)), ih]
      unfold getA
      rw [List.find?_cons, decide_eq_false e]
theorem emb_any {f : α → κ} (hf : ∀ a b, f a = f b → a = b) (l : List (α × Int)) (k : α) : ((emb f l).any fun kv => decide (kv.1 = f k)) = l.any fun p => decide (p.1 = k) := by
  unfold emb
  rw [List.any_map]
  congr 1
  funext p
  exact decide_eq_decide.mpr ⟨fun z => hf _ _ z, fun z => congrArg f z⟩
theorem emb_put {f : α → κ} (hf : ∀ a b, f a = f b → a = b) (l : List (α × Int)) (k : α) (v : Int) : putK (emb f l) (f k) (.int v) = emb f (putA l k v) := by
  unfold putK putA
  rw [emb_any hf]
  cases h : l.any fun p => decide (p.1 = k) with
  | true =>
    rw [if_pos rfl, if_pos rfl]
    unfold emb
    rw [List.map_map, List.map_map]
    refine List.map_congr_left fun p _ => ?_
    show (if f p.1 = f k then (f p.1, V.int v) else (f p.1, V.int p.2)) = _
    show _ = (f (if p.1 = k then (p.1, v) else p).1, V.int (if p.1 = k then (p.1, v) else p).2)
    by_cases e : p.1 = k
    · rw [if_pos e, if_pos (by rw [e])]
    · rw [if_neg e, if_neg fun z => e (hf _ _ z)]
  | false =>
    rw [if_neg (by simp), if_neg (by simp)]
    unfold emb
    rw [List.map_append]
    rfl
theorem emb_drop {f : α → κ} (hf : ∀ a b, f a = f b → a = b) (l : List (α × Int)) (k : α) : dropK (emb f l) (f k) = emb f (dropA l k) := by
  unfold dropK dropA emb
  rw [List.filter_map]
  congr 1
  refine List.filter_congr fun p _ => ?_
  show decide (f p.1 ≠ f k) = decide (p.1 ≠ k)
  exact decide_eq_decide.mpr ⟨fun z e => z (by rw [e]), fun z e => z (hf _ _ e)⟩
end
theorem kS_inj : ∀ a b, kS a = kS b → a = b := fun _ _ h => Sum.inr.inj h
theorem kP_inj : ∀ a b, kP a = kP b → a = b := fun a b h => by
  unfold kP at h
  simp at h
  exact Prod.ext h.1 h.2
theorem Rd.same {H H' : Hp} {a : Addr} {u : HO} (h : Rd H a u) (s : Same H H') : Rd H' a u := h.elim (fun e => .inl (s _ _ e)) fun ⟨o, e⟩ => .inr ⟨o, s _ _ e⟩
theorem WebR.same {K H H' a p q W} (h : WebR K H a p q W) (s : Same H H') : WebR K H' a p q W := ⟨h.k, let ⟨dx, e⟩ := h.o; ⟨dx, s _ _ e⟩, Rd.same h.hv s, Rd.same h.kn s⟩
theorem WebR.hget {K H a p q W} (h : WebR K H a p q W) (n : Str) : DGet H p (.str n) ((getA W.hv n).map V.int) := by
  rw [← emb_val kS_inj]
  exact .inl ⟨_, kS n, h.hv, rfl, rfl⟩
theorem WebR.kget {K H a p q W} (h : WebR K H a p q W) {b : Addr} {n m : Str} (eb : H b = some (.tup [.str n, .str m])) : DGet H q (.ref b) ((getA W.kn (n, m)).map V.int) := by
  rw [← emb_val kP_inj]
  exact .inr ⟨_, kP (n, m), b, h.kn, rfl, eb, rfl⟩
theorem WebO.hget {K H a p q W} (h : WebO K H a p q W) (n : Str) : DGet H p (.str n) ((getA W.hv n).map V.int) := h.r.hget n
theorem WebO.kget {K H a p q W} (h : WebO K H a p q W) {b : Addr} {n m : Str} (eb : H b = some (.tup [.str n, .str m])) : DGet H q (.ref b) ((getA W.kn (n, m)).map V.int) := h.r.kget eb
theorem some_int {o : Option Int} : (o.map V.int).isSome = o.isSome := by cases o <;> rfl
theorem knotW_some {W : WebS} {n m u v : Str} (e : knotW W n m = some (u, v)) : ∃ w, getA W.kn (u, v) = some w := by
  unfold knotW at e
  split at e
  · rename_i h
    cases e
    exact Option.isSome_iff_exists.mp h
  · split at e
    · rename_i h
      cases e
      exact Option.isSome_iff_exists.mp h
    · cases e
theorem pure_Web_knot {K a b c H Q E} (h : P_Web_knot K a b c H Q E) : t_Web_knot K E { nx := fun _ H' => Q .non H', rt := Q } [some a, some b, some c] H := by
  obtain ⟨x, p, q, W, n, m, rfl, hw, rfl, rfl, k1, k2⟩ := h
  obtain ⟨dx, ho⟩ := hw.o
  ((try (conv => whnf)); repeat (first | (refine cndT rfl ?_; (try (conv => whnf))) | (refine cndF rfl ?_; (try (conv => whnf)))))
  refine ⟨by show 2 ≤ sizeLine; decide, ?_⟩
  (intro l1 n1; generalize hG : _root_.L2.upd _ l1 _ = G1; have s1 := sameOf n1 hG; have e1 := atOf hG; clear hG; ((try (conv => whnf)); repeat (first | (refine cndT rfl ?_; (try (conv => whnf))) | (refine cndF rfl ?_; (try (conv => whnf))))))
  have hw1 := hw.same s1
  refine ⟨x, _, dx, _, _, rfl, s1 _ _ ho, hw.k.cls, hw.k.nk, webF_k, ?_⟩
  ((try (conv => whnf)); repeat (first | (refine cndT rfl ?_; (try (conv => whnf))) | (refine cndF rfl ?_; (try (conv => whnf)))))
  refine .inr ⟨q, _, rfl, hw1.kget e1, ?_⟩
  rw [some_int]
  cases c1 : (getA W.kn (n, m)).isSome with
  | true =>
    ((try (conv => whnf)); repeat (first | (refine cndT rfl ?_; (try (conv => whnf))) | (refine cndF rfl ?_; (try (conv => whnf)))))
    refine ⟨by show 2 ≤ sizeLine; decide, ?_⟩
    (intro l2 n2; generalize hG : _root_.L2.upd _ l2 _ = G2; have s2 := sameOf n2 hG; have e2 := atOf hG; clear hG; ((try (conv => whnf)); repeat (first | (refine cndT rfl ?_; (try (conv => whnf))) | (refine cndF rfl ?_; (try (conv => whnf))))))
    exact k1 l2 n m G2 (by unfold knotW; rw [c1]; rfl) (s1.trans s2) e2
  | false =>
    ((try (conv => whnf)); repeat (first | (refine cndT rfl ?_; (try (conv => whnf))) | (refine cndF rfl ?_; (try (conv => whnf)))))
    refine ⟨by show 2 ≤ sizeLine; decide, ?_⟩
    (intro l2 n2; generalize hG : _root_.L2.upd _ l2 _ = G2; have s2 := sameOf n2 hG; have e2 := atOf hG; clear hG; ((try (conv => whnf)); repeat (first | (refine cndT rfl ?_; (try (conv => whnf))) | (refine cndF rfl ?_; (try (conv => whnf))))))
    have hw2 := hw1.same s2
    refine ⟨x, _, dx, _, _, rfl, s2 _ _ (s1 _ _ ho), hw.k.cls, hw.k.nk, webF_k, ?_⟩
    ((try (conv => whnf)); repeat (first | (refine cndT rfl ?_; (try (conv => whnf))) | (refine cndF rfl ?_; (try (conv => whnf)))))
    refine .inr ⟨q, _, rfl, hw2.kget e2, ?_⟩
    rw [some_int]
    cases c2 : (getA W.kn (m, n)).isSome with
    | true =>
      ((try (conv => whnf)); repeat (first | (refine cndT rfl ?_; (try (conv => whnf))) | (refine cndF rfl ?_; (try (conv => whnf)))))
      refine ⟨by show 2 ≤ sizeLine; decide, ?_⟩
      (intro l3 n3; generalize hG : _root_.L2.upd _ l3 _ = G3; have s3 := sameOf n3 hG; have e3 := atOf hG; clear hG; ((try (conv => whnf)); repeat (first | (refine cndT rfl ?_; (try (conv => whnf))) | (refine cndF rfl ?_; (try (conv => whnf))))))
      exact k1 l3 m n G3 (by unfold knotW; rw [c1, c2]; rfl) ((s1.trans s2).trans s3) e3
    | false =>
      ((try (conv => whnf)); repeat (first | (refine cndT rfl ?_; (try (conv => whnf))) | (refine cndF rfl ?_; (try (conv => whnf)))))
      exact k2 G2 (by unfold knotW; rw [c1, c2]; rfl) (s1.trans s2)
theorem nameS_len {z : Str} (h : nameS z = true) : z.length ≤ 8 := by
  unfold nameS at h
  simp only [Bool.and_eq_true, decide_eq_true_eq] at h
  exact h.1.2
theorem setD {x y v : V} {a : Addr} {H H4 : Hp} {Q : Hp → Prop} (e : x = .ref a) (h : DPut H a y v H4) (q : Q H4) : rSetU x y v H Q := by
  unfold rSetU
  exact .inr ⟨a, H4, e, h, q⟩
theorem ixD {K : PySem.W.Frag} {y v : V} {a : Addr} {H : Hp} {Q : VK} (h : DGet H a y (some v)) (q : Q v H) : rIxU K (.ref a) y H Q := by
  unfold rIxU
  exact .inr ⟨a, v, rfl, h, q⟩
theorem getD {K : PySem.W.Frag} {y v : V} {a : Addr} {H : Hp} {Q : VK} (h : DGet H a y (some v)) (q : Q v H) : rGetU K (.ref a) y H Q := by
  unfold rGetU
  exact .inr ⟨a, v, rfl, h, q⟩
theorem Kx.refl {S : List Addr} {H : Hp} : Kx S H H := fun _ _ _ h => h
theorem Kx.same {S : List Addr} {H H' : Hp} (s : Same H H') : Kx S H H' := fun b o _ h => s b o h
theorem Kx.trans {S : List Addr} {H H1 H2 : Hp} (a : Kx S H H1) (b : Kx S H1 H2) : Kx S H H2 := fun c o n h => b c o n (a c o n h)
theorem Kx.but {p : Addr} {S : List Addr} {H H' : Hp} (b : But p H H') (h : p ∈ S) : Kx S H H' := fun c o n e => (b c (fun z => n (z ▸ h))).trans e
abbrev rf1 (c f : Str) (b : V) : RefO := some (c, [(f, b)])
abbrev rf2 (c f g : Str) (b b2 : V) : RefO := some (c, [(f, b), (g, b2)])
theorem placeO_str {W : WebS} {n : Str} (c : (getA W.hv n).isSome = true) : placeO W (.str n) = none := by
  show (if _ then _ else _) = _
  rw [if_pos c]
theorem placeO_no {W : WebS} {n : Str} (c : (getA W.hv n).isSome = false) : placeO W (.str n) = rf1 "NoPlace" "found" (.str n) := by
  show (if _ then _ else _) = _
  rw [c]
  rfl
theorem placeO_non {W : WebS} {b : V} (h : ∀ n, b ≠ .str n) : placeO W b = rf1 "NoPlace" "found" (b) := by
  unfold placeO
  split
  · exact absurd rfl (h _)
  · rfl
theorem placeO_ok {W : WebS} {b : V} (h : placeO W b = none) : ∃ n, b = .str n ∧ isPl W n := by
  unfold placeO at h
  split at h
  · rename_i n
    split at h
    · rename_i c
      exact ⟨n, rfl, c⟩
    · cases h
  · cases h
theorem twoO_ok {W : WebS} {b c : V} (h : twoO W b c = none) : ∃ n m, b = .str n ∧ c = .str m ∧ isPl W n ∧ isPl W m ∧ n ≠ m := by
  unfold twoO at h
  split at h
  · cases h
  · rename_i h1
    split at h
    · cases h
    · rename_i h2
      split at h
      · cases h
      · rename_i h3
        obtain ⟨n, rfl, hn⟩ := placeO_ok h1
        obtain ⟨m, rfl, hm⟩ := placeO_ok h2
        exact ⟨n, m, rfl, rfl, hn, hm, fun e => h3 (by rw [e])⟩
theorem pure_Web_need_place {K a b H Q E} (h : P_Web_need_place K a b H Q E) : t_Web_need_place K E { nx := fun _ H' => Q .non H', rt := Q } [some a, some b] H := by
  obtain ⟨x, p, q, W, t, rfl, ek, hw, ht, kb, kg⟩ := h
  obtain ⟨dx, ho⟩ := hw.o
  rcases ht.str_or with ⟨n, rfl, rfl⟩ | ⟨nz, h1⟩
  · refine isiN (t := "str") (b := true) rfl (by decide +kernel) ?_
    ((try (conv => whnf)); repeat (first | (refine cndT rfl ?_; (try (conv => whnf))) | (refine cndF rfl ?_; (try (conv => whnf)))))
    refine ⟨x, _, dx, _, _, rfl, ho, hw.k.cls, hw.k.nh, webF_h, ?_⟩
    ((try (conv => whnf)); repeat (first | (refine cndT rfl ?_; (try (conv => whnf))) | (refine cndF rfl ?_; (try (conv => whnf)))))
    refine .inr ⟨p, _, rfl, hw.hget n, ?_⟩
    rw [some_int]
    cases c : (getA W.hv n).isSome with
    | true =>
      ((try (conv => whnf)); repeat (first | (refine cndT rfl ?_; (try (conv => whnf))) | (refine cndF rfl ?_; (try (conv => whnf)))))
      exact kg (placeO_str c)
    | false =>
      ((try (conv => whnf)); repeat (first | (refine cndT rfl ?_; (try (conv => whnf))) | (refine cndF rfl ?_; (try (conv => whnf)))))
      exact rz1 ek (c := "NoPlace") (by decide +kernel) (fun _ _ _ _ _ h => h) (kb _ (placeO_no c))
  · refine isiN ht h1 ?_
    ((try (conv => whnf)); repeat (first | (refine cndT rfl ?_; (try (conv => whnf))) | (refine cndF rfl ?_; (try (conv => whnf)))))
    exact rz1 ek (c := "NoPlace") (by decide +kernel) (fun _ _ _ _ _ h => h) (kb _ (placeO_non nz))
theorem pure_Web_need_two {K a b c H Q E} (h : P_Web_need_two K a b c H Q E) : t_Web_need_two K E { nx := fun _ H' => Q .non H', rt := Q } [some a, some b, some c] H := by
  obtain ⟨x, p, q, W, t, u, rfl, ek, hw, ht, hu, kb, kg⟩ := h
  obtain ⟨dx, ho⟩ := hw.o
  ((try (conv => whnf)); repeat (first | (refine cndT rfl ?_; (try (conv => whnf))) | (refine cndF rfl ?_; (try (conv => whnf)))))
  refine ⟨x, dx, _, rfl, ho, webF_n (by decide +kernel) (by decide +kernel), ?_⟩
  ((try (conv => whnf)); repeat (first | (refine cndT rfl ?_; (try (conv => whnf))) | (refine cndF rfl ?_; (try (conv => whnf)))))
  refine ⟨x, p, q, W, t, rfl, ek, hw, ht, fun r hr => kb r (by unfold twoO; rw [hr]), fun h1 => ?_⟩
  ((try (conv => whnf)); repeat (first | (refine cndT rfl ?_; (try (conv => whnf))) | (refine cndF rfl ?_; (try (conv => whnf)))))
  refine ⟨x, dx, _, rfl, ho, webF_n (by decide +kernel) (by decide +kernel), ?_⟩
  ((try (conv => whnf)); repeat (first | (refine cndT rfl ?_; (try (conv => whnf))) | (refine cndF rfl ?_; (try (conv => whnf)))))
  refine ⟨x, p, q, W, u, rfl, ek, hw, hu, fun r hr => kb r (by unfold twoO; rw [h1, hr]), fun h2 => ?_⟩
  obtain ⟨n, rfl, hn⟩ := placeO_ok h1
  obtain ⟨m, rfl, hm⟩ := placeO_ok h2
  ((try (conv => whnf)); repeat (first | (refine cndT rfl ?_; (try (conv => whnf))) | (refine cndF rfl ?_; (try (conv => whnf)))))
  (refine cndB (fun c1 => ?_) (fun c1 => ?_) <;> (try simp only [Bool.not_eq_eq_eq_not, Bool.not_true, Bool.not_false, decide_eq_true_eq, decide_eq_false_iff_not, Int.not_le, Int.not_lt] at c1) <;> ((try (conv => whnf)); repeat (first | (refine cndT rfl ?_; (try (conv => whnf))) | (refine cndF rfl ?_; (try (conv => whnf))))))
  · subst c1
    exact rz1 ek (c := "Same") (by decide +kernel) (fun _ _ _ _ _ h => h) (kb _ (by unfold twoO; rw [h1]; show (if _ then _ else _) = _; rw [if_pos rfl]))
  · exact kg (by unfold twoO; rw [h1, h2]; show (if _ then _ else _) = _; rw [if_neg (by simp [c1])])
theorem needTieO_two {W : WebS} {b c : V} {r : Str × List (Str × V)} (h : twoO W b c = some r) : needTieO W b c = some r := by
  unfold needTieO
  rw [h]
theorem pure_Web_need_tie {K a b c H Q E} (h : P_Web_need_tie K a b c H Q E) : t_Web_need_tie K E { nx := fun _ H' => Q .non H', rt := Q } [some a, some b, some c, none] H := by
  obtain ⟨x, p, q, W, t, u, rfl, ek, hw, ht, hu, kb, kg⟩ := h
  obtain ⟨dx, ho⟩ := hw.o
  ((try (conv => whnf)); repeat (first | (refine cndT rfl ?_; (try (conv => whnf))) | (refine cndF rfl ?_; (try (conv => whnf)))))
  refine ⟨x, dx, _, rfl, ho, webF_n (by decide +kernel) (by decide +kernel), ?_⟩
  ((try (conv => whnf)); repeat (first | (refine cndT rfl ?_; (try (conv => whnf))) | (refine cndF rfl ?_; (try (conv => whnf)))))
  refine ⟨x, p, q, W, t, u, rfl, ek, hw, ht, hu, fun r hr => kb r (needTieO_two hr), fun h1 => ?_⟩
  obtain ⟨n, m, rfl, rfl, hn, hm, ne⟩ := twoO_ok h1
  ((try (conv => whnf)); repeat (first | (refine cndT rfl ?_; (try (conv => whnf))) | (refine cndF rfl ?_; (try (conv => whnf)))))
  refine ⟨x, dx, _, rfl, ho, webF_n (by decide +kernel) (by decide +kernel), ?_⟩
  ((try (conv => whnf)); repeat (first | (refine cndT rfl ?_; (try (conv => whnf))) | (refine cndF rfl ?_; (try (conv => whnf)))))
  refine ⟨x, p, q, W, n, m, rfl, hw, rfl, rfl, fun T u' v' H' e s eT => ?_, fun H' e s => ?_⟩
  · ((try (conv => whnf)); repeat (first | (refine cndT rfl ?_; (try (conv => whnf))) | (refine cndF rfl ?_; (try (conv => whnf)))))
    refine ⟨rfl, ?_⟩
    ((try (conv => whnf)); repeat (first | (refine cndT rfl ?_; (try (conv => whnf))) | (refine cndF rfl ?_; (try (conv => whnf)))))
    exact kg n m u' v' T H' rfl rfl h1 e s eT
  · ((try (conv => whnf)); repeat (first | (refine cndT rfl ?_; (try (conv => whnf))) | (refine cndF rfl ?_; (try (conv => whnf)))))
    refine ⟨rfl, ?_⟩
    ((try (conv => whnf)); repeat (first | (refine cndT rfl ?_; (try (conv => whnf))) | (refine cndF rfl ?_; (try (conv => whnf)))))
    refine rz2 ek (c := "NoTie") (by decide +kernel) (fun _ _ _ _ _ _ h => h) (fun d H2 nd s2 e2 => kb _ (by unfold needTieO; rw [h1]; show (match knotW W n m with | none => _ | some _ => _) = _; rw [e]) d H2 (s.free nd) (s.trans s2) e2)
theorem pure_Web_need_weight {K a b H Q E} (h : P_Web_need_weight K a b H Q E) : t_Web_need_weight K E { nx := fun _ H' => Q .non H', rt := Q } [some a, some b] H := by
  obtain ⟨t, ek, ht, kb, kg⟩ := h
  ((try (conv => whnf)); repeat (first | (refine cndT rfl ?_; (try (conv => whnf))) | (refine cndF rfl ?_; (try (conv => whnf)))))
  refine ⟨t, 1, 1000000000, ht, rfl, rfl, ?_⟩
  cases c : wholeV b 1 1000000000 with
  | true =>
    ((try (conv => whnf)); repeat (first | (refine cndT rfl ?_; (try (conv => whnf))) | (refine cndF rfl ?_; (try (conv => whnf)))))
    exact kg (by unfold weightO; rw [if_pos c])
  | false =>
    ((try (conv => whnf)); repeat (first | (refine cndT rfl ?_; (try (conv => whnf))) | (refine cndF rfl ?_; (try (conv => whnf)))))
    exact rz1 ek (c := "NoWeight") (by decide +kernel) (fun _ _ _ _ _ h => h) (kb _ (by unfold weightO; rw [c]; rfl))
theorem wholeV_int {v : V} {lo hi : Int} (h : wholeV v lo hi = true) : ∃ i, v = .int i ∧ lo ≤ i ∧ i ≤ hi := by
  unfold wholeV at h
  split at h
  · rename_i i
    simp only [Bool.and_eq_true, decide_eq_true_eq] at h
    exact ⟨i, rfl, h.1, h.2⟩
  · cases h
theorem weightO_ok {c : V} (h : weightO c = none) : ∃ w, c = .int w ∧ 1 ≤ w ∧ w ≤ 1000000000 := by
  unfold weightO at h
  split at h
  · rename_i c1
    exact wholeV_int c1
  · cases h
theorem nameV_str {b : V} (h : nameV b = true) : ∃ n, b = .str n ∧ nameS n = true := by
  unfold nameV at h
  split at h
  · exact ⟨_, rfl, h⟩
  · cases h
theorem Rz.mono {K E H H' r} (h : Rz K E H r) (s : Same H H') : Rz K E H' r := fun d H2 n s2 e => h d H2 (s.free n) (s.trans s2) e
theorem putO_w {W : WebS} {b c : V} {r : Str × List (Str × V)} (h1 : nameV b = true) (h2 : weightO c = some r) : putO W b c = some r := by
  unfold putO
  rw [h1, h2]
  rfl
theorem putO_at {W : WebS} {n : Str} {w : Int} (h1 : nameS n = true) (h2 : weightO (.int w) = none) : putO W (.str n) (.int w) = if (getA W.hv n).isSome = true then rf1 "Taken" "found" (.str n) else if 60 ≤ W.hv.length then rf1 "TooMany" "many" (.int 61) else if 1000000000 < totalW W + w then rf1 "Beyond" "many" (.int (totalW W + w)) else none := by
  unfold putO
  rw [show nameV (.str n) = true from h1, h2]
  rfl
theorem pure_Web_put {K a b c H Q E} (h : P_Web_put K a b c H Q E) : t_Web_put K E { nx := fun _ H' => Q .non H', rt := Q } [some a, some b, some c] H := by
  obtain ⟨x, p, q, W, t, u, rfl, ek, hw, ht, hu, hz, hl0, kb, kg⟩ := h
  obtain ⟨dx, ho⟩ := hw.o
  ((try (conv => whnf)); repeat (first | (refine cndT rfl ?_; (try (conv => whnf))) | (refine cndF rfl ?_; (try (conv => whnf)))))
  refine ⟨t, ht, hz, fun H1 s1 => ?_⟩
  cases c0 : nameV b with
  | false =>
    ((try (conv => whnf)); repeat (first | (refine cndT rfl ?_; (try (conv => whnf))) | (refine cndF rfl ?_; (try (conv => whnf)))))
    exact rz1 ek (c := "NoName") (by decide +kernel) (fun _ _ _ _ _ h => h) (kb _ H1 s1 (by unfold putO; rw [c0]; rfl))
  | true =>
  obtain ⟨n, rfl, hn⟩ := nameV_str c0
  have nl := nameS_len hn
  ((try (conv => whnf)); repeat (first | (refine cndT rfl ?_; (try (conv => whnf))) | (refine cndF rfl ?_; (try (conv => whnf)))))
  refine ⟨x, dx, _, rfl, s1 _ _ ho, webF_n (by decide +kernel) (by decide +kernel), ?_⟩
  ((try (conv => whnf)); repeat (first | (refine cndT rfl ?_; (try (conv => whnf))) | (refine cndF rfl ?_; (try (conv => whnf)))))
  refine ⟨u, ek, hu.mono s1, fun r hr => kb r H1 s1 (putO_w hn hr), fun hwt => ?_⟩
  obtain ⟨w, rfl, w1, w2⟩ := weightO_ok hwt
  have at0 := putO_at (W := W) hn hwt
  ((try (conv => whnf)); repeat (first | (refine cndT rfl ?_; (try (conv => whnf))) | (refine cndF rfl ?_; (try (conv => whnf)))))
  refine ⟨x, _, dx, _, _, rfl, s1 _ _ ho, hw.k.cls, hw.k.nh, webF_h, ?_⟩
  ((try (conv => whnf)); repeat (first | (refine cndT rfl ?_; (try (conv => whnf))) | (refine cndF rfl ?_; (try (conv => whnf)))))
  have hw1 := hw.same s1
  refine .inr ⟨p, _, rfl, hw1.hget n, ?_⟩
  rw [some_int]
  cases hg : (getA W.hv n).isSome with
  | true =>
    ((try (conv => whnf)); repeat (first | (refine cndT rfl ?_; (try (conv => whnf))) | (refine cndF rfl ?_; (try (conv => whnf)))))
    rw [if_pos hg] at at0
    exact rz1 ek (c := "Taken") (by decide +kernel) (fun _ _ _ _ _ h => h) (kb _ H1 s1 at0)
  | false =>
  rw [if_neg (by rw [hg]; simp)] at at0
  ((try (conv => whnf)); repeat (first | (refine cndT rfl ?_; (try (conv => whnf))) | (refine cndF rfl ?_; (try (conv => whnf)))))
  refine ⟨x, _, dx, _, _, rfl, s1 _ _ ho, hw.k.cls, hw.k.nh, webF_h, ?_⟩
  ((try (conv => whnf)); repeat (first | (refine cndT rfl ?_; (try (conv => whnf))) | (refine cndF rfl ?_; (try (conv => whnf)))))
  refine .inr (.inr (.inl ⟨_, hw1.hv, ?_⟩))
  rw [emb_len]
  ((try (conv => whnf)); repeat (first | (refine cndT rfl ?_; (try (conv => whnf))) | (refine cndF rfl ?_; (try (conv => whnf)))))
  (refine cndB (fun c1 => ?_) (fun c1 => ?_) <;> (try simp only [Bool.not_eq_eq_eq_not, Bool.not_true, Bool.not_false, decide_eq_true_eq, decide_eq_false_iff_not, Int.not_le, Int.not_lt] at c1) <;> ((try (conv => whnf)); repeat (first | (refine cndT rfl ?_; (try (conv => whnf))) | (refine cndF rfl ?_; (try (conv => whnf))))))
  · rw [if_pos (by omega)] at at0
    exact rz1 ek (c := "TooMany") (by decide +kernel) (fun _ _ _ _ _ h => h) (kb _ H1 s1 at0)
  rw [if_neg (by omega)] at at0
  refine ⟨x, dx, _, rfl, s1 _ _ ho, webF_n (by decide +kernel) (by decide +kernel), ?_⟩
  ((try (conv => whnf)); repeat (first | (refine cndT rfl ?_; (try (conv => whnf))) | (refine cndF rfl ?_; (try (conv => whnf)))))
  refine ⟨x, p, q, W, rfl, hw1, by omega, fun H2 s2 => ?_⟩
  have hw2 := hw1.same s2
  have ho2 := s2 _ _ (s1 _ _ ho)
  ((try (conv => whnf)); repeat (first | (refine cndT rfl ?_; (try (conv => whnf))) | (refine cndF rfl ?_; (try (conv => whnf)))))
  (refine cndB (fun c2 => ?_) (fun c2 => ?_) <;> (try simp only [Bool.not_eq_eq_eq_not, Bool.not_true, Bool.not_false, decide_eq_true_eq, decide_eq_false_iff_not, Int.not_le, Int.not_lt] at c2) <;> ((try (conv => whnf)); repeat (first | (refine cndT rfl ?_; (try (conv => whnf))) | (refine cndF rfl ?_; (try (conv => whnf))))))
  · rw [if_pos (by omega)] at at0
    refine ⟨x, dx, _, rfl, ho2, webF_n (by decide +kernel) (by decide +kernel), ?_⟩
    ((try (conv => whnf)); repeat (first | (refine cndT rfl ?_; (try (conv => whnf))) | (refine cndF rfl ?_; (try (conv => whnf)))))
    refine ⟨x, p, q, W, rfl, hw2, by omega, fun H3 s3 => ?_⟩
    ((try (conv => whnf)); repeat (first | (refine cndT rfl ?_; (try (conv => whnf))) | (refine cndF rfl ?_; (try (conv => whnf)))))
    exact rz1 ek (c := "Beyond") (by decide +kernel) (fun _ _ _ _ _ h => h) (kb _ H3 ((s1.trans s2).trans s3) at0)
  rw [if_neg (by omega)] at at0
  refine ⟨x, _, dx, _, _, rfl, ho2, hw.k.cls, hw.k.nh, webF_h, ?_⟩
  ((try (conv => whnf)); repeat (first | (refine cndT rfl ?_; (try (conv => whnf))) | (refine cndF rfl ?_; (try (conv => whnf)))))
  refine setD rfl (DPut.k (k := kS n) hw2.hv (by rw [emb_len, sizeLine_eq]; omega)) ?_
  (generalize hG : _root_.L2.upd _ p _ = H3; have b3 := butOf hG; have e3 := atOf hG; clear hG; ((try (conv => whnf)); repeat (first | (refine cndT rfl ?_; (try (conv => whnf))) | (refine cndF rfl ?_; (try (conv => whnf))))))
  rw [emb_put kS_inj] at e3
  exact kg n w rfl rfl at0 H3 ((Kx.same (s1.trans s2)).trans (.but b3 (by simp))) e3
theorem pure_Web_weigh {K a b c H Q E} (h : P_Web_weigh K a b c H Q E) : t_Web_weigh K E { nx := fun _ H' => Q .non H', rt := Q } [some a, some b, some c, none] H := by
  obtain ⟨x, p, q, W, t, u, rfl, ek, hw, ht, hu, hl0, kb, kg⟩ := h
  obtain ⟨dx, ho⟩ := hw.o
  ((try (conv => whnf)); repeat (first | (refine cndT rfl ?_; (try (conv => whnf))) | (refine cndF rfl ?_; (try (conv => whnf)))))
  refine ⟨x, dx, _, rfl, ho, webF_n (by decide +kernel) (by decide +kernel), ?_⟩
  ((try (conv => whnf)); repeat (first | (refine cndT rfl ?_; (try (conv => whnf))) | (refine cndF rfl ?_; (try (conv => whnf)))))
  refine ⟨x, p, q, W, t, rfl, ek, hw.r, ht, fun r hr => kb r H (Same.refl _) (by unfold weighO; rw [hr]), fun h1 => ?_⟩
  ((try (conv => whnf)); repeat (first | (refine cndT rfl ?_; (try (conv => whnf))) | (refine cndF rfl ?_; (try (conv => whnf)))))
  refine ⟨x, dx, _, rfl, ho, webF_n (by decide +kernel) (by decide +kernel), ?_⟩
  ((try (conv => whnf)); repeat (first | (refine cndT rfl ?_; (try (conv => whnf))) | (refine cndF rfl ?_; (try (conv => whnf)))))
  refine ⟨u, ek, hu, fun r hr => kb r H (Same.refl _) (by unfold weighO; rw [h1, hr]), fun h2 => ?_⟩
  obtain ⟨n, rfl, hn⟩ := placeO_ok h1
  obtain ⟨w, rfl, w1, w2⟩ := weightO_ok h2
  obtain ⟨w0, hg⟩ := Option.isSome_iff_exists.mp (show (getA W.hv n).isSome = true from hn)
  have at0 : weighO W (.str n) (.int w) = if 1000000000 < totalW W - w0 + w then rf1 "Beyond" "many" (.int (totalW W - w0 + w)) else none := by
    unfold weighO
    rw [h1, h2]
    show (if 1000000000 < totalW W - (getA W.hv n).getD 0 + w then rf1 "Beyond" "many" (.int (totalW W - (getA W.hv n).getD 0 + w)) else none) = _
    rw [hg]
    rfl
  ((try (conv => whnf)); repeat (first | (refine cndT rfl ?_; (try (conv => whnf))) | (refine cndF rfl ?_; (try (conv => whnf)))))
  refine ⟨x, dx, _, rfl, ho, webF_n (by decide +kernel) (by decide +kernel), ?_⟩
  ((try (conv => whnf)); repeat (first | (refine cndT rfl ?_; (try (conv => whnf))) | (refine cndF rfl ?_; (try (conv => whnf)))))
  refine ⟨x, p, q, W, rfl, hw, by omega, fun H2 s2 => ?_⟩
  have hw2 := hw.same s2
  have ho2 := s2 _ _ ho
  ((try (conv => whnf)); repeat (first | (refine cndT rfl ?_; (try (conv => whnf))) | (refine cndF rfl ?_; (try (conv => whnf)))))
  refine ⟨x, _, dx, _, _, rfl, ho2, hw.k.cls, hw.k.nh, webF_h, ?_⟩
  have g := hw2.hget n
  rw [hg] at g
  refine ixD g ?_
  ((try (conv => whnf)); repeat (first | (refine cndT rfl ?_; (try (conv => whnf))) | (refine cndF rfl ?_; (try (conv => whnf)))))
  (refine cndB (fun c1 => ?_) (fun c1 => ?_) <;> (try simp only [Bool.not_eq_eq_eq_not, Bool.not_true, Bool.not_false, decide_eq_true_eq, decide_eq_false_iff_not, Int.not_le, Int.not_lt] at c1) <;> ((try (conv => whnf)); repeat (first | (refine cndT rfl ?_; (try (conv => whnf))) | (refine cndF rfl ?_; (try (conv => whnf))))))
  · rw [if_pos (by omega)] at at0
    exact rz1 ek (c := "Beyond") (by decide +kernel) (fun _ _ _ _ _ h => h) (kb _ H2 s2 at0)
  rw [if_neg (by omega)] at at0
  refine ⟨x, _, dx, _, _, rfl, ho2, hw.k.cls, hw.k.nh, webF_h, ?_⟩
  ((try (conv => whnf)); repeat (first | (refine cndT rfl ?_; (try (conv => whnf))) | (refine cndF rfl ?_; (try (conv => whnf)))))
  refine setD rfl (DPut.k (k := kS n) hw2.hv (by rw [emb_len, sizeLine_eq]; omega)) ?_
  (generalize hG : _root_.L2.upd _ p _ = H3; have b3 := butOf hG; have e3 := atOf hG; clear hG; ((try (conv => whnf)); repeat (first | (refine cndT rfl ?_; (try (conv => whnf))) | (refine cndF rfl ?_; (try (conv => whnf))))))
  rw [emb_put kS_inj] at e3
  exact kg n w rfl rfl at0 H3 ((Kx.same s2).trans (.but b3 (by simp))) e3
theorem strO_ok {c : V} (h : strO c = none) : ∃ w, c = .int w ∧ 1 ≤ w ∧ w ≤ 1000000000 := by
  unfold strO at h
  split at h
  · rename_i c1
    exact wholeV_int c1
  · cases h
theorem pure_Web_tie {K a b c d H Q E} (h : P_Web_tie K a b c d H Q E) : t_Web_tie K E { nx := fun _ H' => Q .non H', rt := Q } [some a, some b, some c, some d] H := by
  obtain ⟨x, p, q, W, t, u, v, rfl, ek, hw, ht, hu, hv, hl0, kb, kg⟩ := h
  obtain ⟨dx, ho⟩ := hw.o
  ((try (conv => whnf)); repeat (first | (refine cndT rfl ?_; (try (conv => whnf))) | (refine cndF rfl ?_; (try (conv => whnf)))))
  refine ⟨x, dx, _, rfl, ho, webF_n (by decide +kernel) (by decide +kernel), ?_⟩
  ((try (conv => whnf)); repeat (first | (refine cndT rfl ?_; (try (conv => whnf))) | (refine cndF rfl ?_; (try (conv => whnf)))))
  refine ⟨x, p, q, W, t, u, rfl, ek, hw.r, ht, hu, fun r hr => kb r H (Same.refl _) (by unfold tieO; rw [hr]), fun h1 => ?_⟩
  obtain ⟨n, m, rfl, rfl, hn, hm, ne⟩ := twoO_ok h1
  ((try (conv => whnf)); repeat (first | (refine cndT rfl ?_; (try (conv => whnf))) | (refine cndF rfl ?_; (try (conv => whnf)))))
  refine ⟨v, 1, 1000000000, hv, rfl, rfl, ?_⟩
  cases c0 : wholeV d 1 1000000000 with
  | false =>
    ((try (conv => whnf)); repeat (first | (refine cndT rfl ?_; (try (conv => whnf))) | (refine cndF rfl ?_; (try (conv => whnf)))))
    exact rz1 ek (c := "NoStrength") (by decide +kernel) (fun _ _ _ _ _ h => h) (kb _ H (Same.refl _) (by unfold tieO strO; rw [h1, c0]; rfl))
  | true =>
  obtain ⟨w, rfl, w1, w2⟩ := wholeV_int c0
  have at0 : tieO W (.str n) (.str m) (.int w) = if (knotW W n m).isSome = true then rf2 "Tied" "other" "one" (.str m) (.str n) else if 200 ≤ W.kn.length then rf1 "TooMany" "many" (.int 201) else if 1000000000 < forceW W + w then rf1 "Beyond" "many" (.int (forceW W + w)) else none := by
    unfold tieO strO
    rw [h1, c0]
    rfl
  ((try (conv => whnf)); repeat (first | (refine cndT rfl ?_; (try (conv => whnf))) | (refine cndF rfl ?_; (try (conv => whnf)))))
  refine ⟨x, dx, _, rfl, ho, webF_n (by decide +kernel) (by decide +kernel), ?_⟩
  ((try (conv => whnf)); repeat (first | (refine cndT rfl ?_; (try (conv => whnf))) | (refine cndF rfl ?_; (try (conv => whnf)))))
  refine ⟨x, p, q, W, n, m, rfl, hw.r, rfl, rfl, fun T u' v' H1 e s1 eT => ?_, fun H1 e s1 => ?_⟩
  · ((try (conv => whnf)); repeat (first | (refine cndT rfl ?_; (try (conv => whnf))) | (refine cndF rfl ?_; (try (conv => whnf)))))
    refine ⟨rfl, ?_⟩
    ((try (conv => whnf)); repeat (first | (refine cndT rfl ?_; (try (conv => whnf))) | (refine cndF rfl ?_; (try (conv => whnf)))))
    rw [if_pos (by rw [e]; rfl)] at at0
    exact rz2 ek (c := "Tied") (by decide +kernel) (fun _ _ _ _ _ _ h => h) (kb _ H1 s1 at0)
  rw [if_neg (by rw [e]; simp)] at at0
  have hw1 := hw.same s1
  ((try (conv => whnf)); repeat (first | (refine cndT rfl ?_; (try (conv => whnf))) | (refine cndF rfl ?_; (try (conv => whnf)))))
  refine ⟨rfl, ?_⟩
  ((try (conv => whnf)); repeat (first | (refine cndT rfl ?_; (try (conv => whnf))) | (refine cndF rfl ?_; (try (conv => whnf)))))
  refine ⟨x, _, dx, _, _, rfl, s1 _ _ ho, hw.k.cls, hw.k.nk, webF_k, ?_⟩
  ((try (conv => whnf)); repeat (first | (refine cndT rfl ?_; (try (conv => whnf))) | (refine cndF rfl ?_; (try (conv => whnf)))))
  refine .inr (.inr (.inr ⟨_, hw1.kn, ?_⟩))
  rw [emb_len]
  ((try (conv => whnf)); repeat (first | (refine cndT rfl ?_; (try (conv => whnf))) | (refine cndF rfl ?_; (try (conv => whnf)))))
  (refine cndB (fun c1 => ?_) (fun c1 => ?_) <;> (try simp only [Bool.not_eq_eq_eq_not, Bool.not_true, Bool.not_false, decide_eq_true_eq, decide_eq_false_iff_not, Int.not_le, Int.not_lt] at c1) <;> ((try (conv => whnf)); repeat (first | (refine cndT rfl ?_; (try (conv => whnf))) | (refine cndF rfl ?_; (try (conv => whnf))))))
  · rw [if_pos (by omega)] at at0
    exact rz1 ek (c := "TooMany") (by decide +kernel) (fun _ _ _ _ _ h => h) (kb _ H1 s1 at0)
  rw [if_neg (by omega)] at at0
  refine ⟨x, dx, _, rfl, s1 _ _ ho, webF_n (by decide +kernel) (by decide +kernel), ?_⟩
  ((try (conv => whnf)); repeat (first | (refine cndT rfl ?_; (try (conv => whnf))) | (refine cndF rfl ?_; (try (conv => whnf)))))
  refine ⟨x, p, q, W, rfl, hw1, by omega, fun H2 s2 => ?_⟩
  have hw2 := hw1.same s2
  have ho2 := s2 _ _ (s1 _ _ ho)
  ((try (conv => whnf)); repeat (first | (refine cndT rfl ?_; (try (conv => whnf))) | (refine cndF rfl ?_; (try (conv => whnf)))))
  (refine cndB (fun c2 => ?_) (fun c2 => ?_) <;> (try simp only [Bool.not_eq_eq_eq_not, Bool.not_true, Bool.not_false, decide_eq_true_eq, decide_eq_false_iff_not, Int.not_le, Int.not_lt] at c2) <;> ((try (conv => whnf)); repeat (first | (refine cndT rfl ?_; (try (conv => whnf))) | (refine cndF rfl ?_; (try (conv => whnf))))))
  · rw [if_pos (by omega)] at at0
    refine ⟨x, dx, _, rfl, ho2, webF_n (by decide +kernel) (by decide +kernel), ?_⟩
    ((try (conv => whnf)); repeat (first | (refine cndT rfl ?_; (try (conv => whnf))) | (refine cndF rfl ?_; (try (conv => whnf)))))
    refine ⟨x, p, q, W, rfl, hw2, by omega, fun H3 s3 => ?_⟩
    ((try (conv => whnf)); repeat (first | (refine cndT rfl ?_; (try (conv => whnf))) | (refine cndF rfl ?_; (try (conv => whnf)))))
    exact rz1 ek (c := "Beyond") (by decide +kernel) (fun _ _ _ _ _ h => h) (kb _ H3 ((s1.trans s2).trans s3) at0)
  rw [if_neg (by omega)] at at0
  refine ⟨x, _, dx, _, _, rfl, ho2, hw.k.cls, hw.k.nk, webF_k, ?_⟩
  ((try (conv => whnf)); repeat (first | (refine cndT rfl ?_; (try (conv => whnf))) | (refine cndF rfl ?_; (try (conv => whnf)))))
  refine ⟨by show 2 ≤ sizeLine; decide, ?_⟩
  (intro l3 n3; generalize hG : _root_.L2.upd _ l3 _ = H3; have s3 := sameOf n3 hG; have e3 := atOf hG; clear hG; ((try (conv => whnf)); repeat (first | (refine cndT rfl ?_; (try (conv => whnf))) | (refine cndF rfl ?_; (try (conv => whnf))))))
  have hw3 := hw2.same s3
  refine setD rfl (DPut.t (k := kP (n, m)) hw3.kn e3 (by rw [emb_len, sizeLine_eq]; omega)) ?_
  (generalize hG : _root_.L2.upd _ q _ = H4; have b4 := butOf hG; have e4 := atOf hG; clear hG; ((try (conv => whnf)); repeat (first | (refine cndT rfl ?_; (try (conv => whnf))) | (refine cndF rfl ?_; (try (conv => whnf))))))
  rw [emb_put kP_inj] at e4
  exact kg n m w rfl rfl rfl at0 H4 ((Kx.same ((s1.trans s2).trans s3)).trans (.but b4 (by simp))) e4
theorem tieW_at {W : WebS} {n m : Str} {k : Str × Str} {w0 : Int} (hk : knotW W n m = some k) (hg : getA W.kn k = some w0) : tieW W n m = w0 := by
  unfold tieW
  rw [hk]
  show (getA W.kn k).getD 0 = w0
  rw [hg]
  rfl
theorem pure_Web_more {K a b c d H Q E} (h : P_Web_more K a b c d H Q E) : t_Web_more K E { nx := fun _ H' => Q .non H', rt := Q } [some a, some b, some c, some d, none] H := by
  obtain ⟨x, p, q, W, t, u, v, rfl, ek, hw, ht, hu, hv, hl0, kb, kg⟩ := h
  obtain ⟨dx, ho⟩ := hw.o
  ((try (conv => whnf)); repeat (first | (refine cndT rfl ?_; (try (conv => whnf))) | (refine cndF rfl ?_; (try (conv => whnf)))))
  refine ⟨x, dx, _, rfl, ho, webF_n (by decide +kernel) (by decide +kernel), ?_⟩
  ((try (conv => whnf)); repeat (first | (refine cndT rfl ?_; (try (conv => whnf))) | (refine cndF rfl ?_; (try (conv => whnf)))))
  refine ⟨x, p, q, W, t, u, rfl, ek, hw.r, ht, hu, fun r hr => kb r H (Same.refl _) (by unfold moreO; rw [hr]), fun n m u1 v1 T H1 eb ec h2 hk s1 eT => ?_⟩
  subst eb ec
  have hnt : needTieO W (.str n) (.str m) = none := by
    unfold needTieO
    rw [h2]
    show (match knotW W n m with | none => _ | some _ => _) = _
    rw [hk]
  obtain ⟨w0, hg⟩ := knotW_some hk
  have tw := tieW_at hk hg
  have hw1 := hw.same s1
  have ho1 := s1 _ _ ho
  ((try (conv => whnf)); repeat (first | (refine cndT rfl ?_; (try (conv => whnf))) | (refine cndF rfl ?_; (try (conv => whnf)))))
  refine ⟨v, 0 - 1000000000, 1000000000, hv.mono s1, rfl, rfl, ?_⟩
  rw [show (0 : Int) - 1000000000 = -1000000000 from rfl]
  cases c0 : wholeV d (-1000000000) 1000000000 with
  | false =>
    have at0 : moreO W (.str n) (.str m) d = rf1 "NoStrength" "found" (d) := by
      unfold moreO
      rw [hnt]
      cases d <;> first | rfl | skip
      show (if _ then _ else _) = _
      rw [if_pos (.inl c0)]
    ((try (conv => whnf)); repeat (first | (refine cndT rfl ?_; (try (conv => whnf))) | (refine cndF rfl ?_; (try (conv => whnf)))))
    exact rz1 ek (c := "NoStrength") (by decide +kernel) (fun _ _ _ _ _ h => h) (kb _ H1 s1 at0)
  | true =>
  obtain ⟨w, rfl, w1, w2⟩ := wholeV_int c0
  have at0 : moreO W (.str n) (.str m) (.int w) = if wholeV (.int w) (-1000000000) 1000000000 = false ∨ tieW W n m + w < 1 then rf1 "NoStrength" "found" (.int w) else if 1000000000 < forceW W + w then rf1 "Beyond" "many" (.int (forceW W + w)) else none := by
    unfold moreO
    rw [hnt]
  ((try (conv => whnf)); repeat (first | (refine cndT rfl ?_; (try (conv => whnf))) | (refine cndF rfl ?_; (try (conv => whnf)))))
  refine ⟨x, _, dx, _, _, rfl, ho1, hw.k.cls, hw.k.nk, webF_k, ?_⟩
  have g := hw1.kget eT
  rw [hg] at g
  refine ixD g ?_
  ((try (conv => whnf)); repeat (first | (refine cndT rfl ?_; (try (conv => whnf))) | (refine cndF rfl ?_; (try (conv => whnf)))))
  (refine cndB (fun c1 => ?_) (fun c1 => ?_) <;> (try simp only [Bool.not_eq_eq_eq_not, Bool.not_true, Bool.not_false, decide_eq_true_eq, decide_eq_false_iff_not, Int.not_le, Int.not_lt] at c1) <;> ((try (conv => whnf)); repeat (first | (refine cndT rfl ?_; (try (conv => whnf))) | (refine cndF rfl ?_; (try (conv => whnf))))))
  · rw [if_pos (.inr (by omega))] at at0
    exact rz1 ek (c := "NoStrength") (by decide +kernel) (fun _ _ _ _ _ h => h) (kb _ H1 s1 at0)
  rw [if_neg (by rw [c0]; simp; omega)] at at0
  refine ⟨x, dx, _, rfl, ho1, webF_n (by decide +kernel) (by decide +kernel), ?_⟩
  ((try (conv => whnf)); repeat (first | (refine cndT rfl ?_; (try (conv => whnf))) | (refine cndF rfl ?_; (try (conv => whnf)))))
  refine ⟨x, p, q, W, rfl, hw1, by omega, fun H2 s2 => ?_⟩
  have hw2 := hw1.same s2
  have ho2 := s2 _ _ ho1
  ((try (conv => whnf)); repeat (first | (refine cndT rfl ?_; (try (conv => whnf))) | (refine cndF rfl ?_; (try (conv => whnf)))))
  (refine cndB (fun c2 => ?_) (fun c2 => ?_) <;> (try simp only [Bool.not_eq_eq_eq_not, Bool.not_true, Bool.not_false, decide_eq_true_eq, decide_eq_false_iff_not, Int.not_le, Int.not_lt] at c2) <;> ((try (conv => whnf)); repeat (first | (refine cndT rfl ?_; (try (conv => whnf))) | (refine cndF rfl ?_; (try (conv => whnf))))))
  · rw [if_pos (by omega)] at at0
    refine ⟨x, dx, _, rfl, ho2, webF_n (by decide +kernel) (by decide +kernel), ?_⟩
    ((try (conv => whnf)); repeat (first | (refine cndT rfl ?_; (try (conv => whnf))) | (refine cndF rfl ?_; (try (conv => whnf)))))
    refine ⟨x, p, q, W, rfl, hw2, by omega, fun H3 s3 => ?_⟩
    ((try (conv => whnf)); repeat (first | (refine cndT rfl ?_; (try (conv => whnf))) | (refine cndF rfl ?_; (try (conv => whnf)))))
    exact rz1 ek (c := "Beyond") (by decide +kernel) (fun _ _ _ _ _ h => h) (kb _ H3 ((s1.trans s2).trans s3) at0)
  rw [if_neg (by omega)] at at0
  refine ⟨x, _, dx, _, _, rfl, ho2, hw.k.cls, hw.k.nk, webF_k, ?_⟩
  have eT2 := s2 _ _ eT
  have g2 := hw2.kget eT2
  rw [hg] at g2
  refine getD g2 ?_
  ((try (conv => whnf)); repeat (first | (refine cndT rfl ?_; (try (conv => whnf))) | (refine cndF rfl ?_; (try (conv => whnf)))))
  refine setD rfl (DPut.t (k := kP (u1, v1)) hw2.kn eT2 (by rw [emb_len, sizeLine_eq]; omega)) ?_
  (generalize hG : _root_.L2.upd _ q _ = H4; have b4 := butOf hG; have e4 := atOf hG; clear hG; ((try (conv => whnf)); repeat (first | (refine cndT rfl ?_; (try (conv => whnf))) | (refine cndF rfl ?_; (try (conv => whnf))))))
  rw [emb_put kP_inj, ← tw] at e4
  exact kg n m (u1, v1) w rfl rfl rfl hk at0 H4 ((Kx.same (s1.trans s2)).trans (.but b4 (by simp))) e4
theorem pure_Web_untie {K a b c H Q E} (h : P_Web_untie K a b c H Q E) : t_Web_untie K E { nx := fun _ H' => Q .non H', rt := Q } [some a, some b, some c] H := by
  obtain ⟨x, p, q, W, t, u, rfl, ek, hw, ht, hu, kb, kg⟩ := h
  obtain ⟨dx, ho⟩ := hw.o
  right
  ((try (conv => whnf)); repeat (first | (refine cndT rfl ?_; (try (conv => whnf))) | (refine cndF rfl ?_; (try (conv => whnf)))))
  refine ⟨x, _, dx, _, _, rfl, ho, hw.k.cls, hw.k.nk, webF_k, ?_⟩
  ((try (conv => whnf)); repeat (first | (refine cndT rfl ?_; (try (conv => whnf))) | (refine cndF rfl ?_; (try (conv => whnf)))))
  refine ⟨.inr (.inr (.inl ⟨rfl, .inr ⟨_, hw.kn⟩⟩)), ?_⟩
  ((try (conv => whnf)); repeat (first | (refine cndT rfl ?_; (try (conv => whnf))) | (refine cndF rfl ?_; (try (conv => whnf)))))
  refine ⟨x, dx, _, rfl, ho, webF_n (by decide +kernel) (by decide +kernel), ?_⟩
  ((try (conv => whnf)); repeat (first | (refine cndT rfl ?_; (try (conv => whnf))) | (refine cndF rfl ?_; (try (conv => whnf)))))
  refine ⟨x, p, q, W, t, u, rfl, ek, hw.r, ht, hu, fun r hr => kb r H (Same.refl _) hr, fun n m u1 v1 T H1 eb ec h2 hk s1 eT => ?_⟩
  subst eb ec
  have hnt : needTieO W (.str n) (.str m) = none := by
    unfold needTieO
    rw [h2]
    show (match knotW W n m with | none => _ | some _ => _) = _
    rw [hk]
  obtain ⟨w0, hg⟩ := knotW_some hk
  have hw1 := hw.same s1
  ((try (conv => whnf)); repeat (first | (refine cndT rfl ?_; (try (conv => whnf))) | (refine cndF rfl ?_; (try (conv => whnf)))))
  refine ⟨q, .ref T, .int w0, rfl, rfl, .inr ⟨_, kP (u1, v1), T, hw1.kn, rfl, eT, ?_, ?_⟩⟩
  · rw [emb_val kP_inj, hg]; rfl
  (generalize hG : _root_.L2.upd _ q _ = H2; have b2 := butOf hG; have e2 := atOf hG; clear hG; ((try (conv => whnf)); repeat (first | (refine cndT rfl ?_; (try (conv => whnf))) | (refine cndF rfl ?_; (try (conv => whnf))))))
  rw [emb_drop kP_inj] at e2
  exact kg n m (u1, v1) rfl rfl hk hnt H2 ((Kx.same s1).trans (.but b2 (by simp))) e2
theorem pure_Web_weight {K a b H Q E} (h : P_Web_weight K a b H Q E) : t_Web_weight K E { nx := fun _ H' => Q .non H', rt := Q } [some a, some b] H := by
  obtain ⟨x, p, q, W, t, rfl, ek, hw, ht, kb, kg⟩ := h
  obtain ⟨dx, ho⟩ := hw.o
  ((try (conv => whnf)); repeat (first | (refine cndT rfl ?_; (try (conv => whnf))) | (refine cndF rfl ?_; (try (conv => whnf)))))
  refine ⟨x, dx, _, rfl, ho, webF_n (by decide +kernel) (by decide +kernel), ?_⟩
  ((try (conv => whnf)); repeat (first | (refine cndT rfl ?_; (try (conv => whnf))) | (refine cndF rfl ?_; (try (conv => whnf)))))
  refine ⟨x, p, q, W, t, rfl, ek, hw, ht, kb, fun h1 => ?_⟩
  obtain ⟨n, rfl, hn⟩ := placeO_ok h1
  obtain ⟨w, hg⟩ := Option.isSome_iff_exists.mp (show (getA W.hv n).isSome = true from hn)
  ((try (conv => whnf)); repeat (first | (refine cndT rfl ?_; (try (conv => whnf))) | (refine cndF rfl ?_; (try (conv => whnf)))))
  refine ⟨x, _, dx, _, _, rfl, ho, hw.k.cls, hw.k.nh, webF_h, ?_⟩
  have g := hw.hget n
  rw [hg] at g
  refine ixD g ?_
  exact kg n w rfl hg
theorem pure_Web_strength {K a b c H Q E} (h : P_Web_strength K a b c H Q E) : t_Web_strength K E { nx := fun _ H' => Q .non H', rt := Q } [some a, some b, some c, none] H := by
  obtain ⟨x, p, q, W, t, u, rfl, ek, hw, ht, hu, kb, kg⟩ := h
  obtain ⟨dx, ho⟩ := hw.o
  ((try (conv => whnf)); repeat (first | (refine cndT rfl ?_; (try (conv => whnf))) | (refine cndF rfl ?_; (try (conv => whnf)))))
  refine ⟨x, dx, _, rfl, ho, webF_n (by decide +kernel) (by decide +kernel), ?_⟩
  ((try (conv => whnf)); repeat (first | (refine cndT rfl ?_; (try (conv => whnf))) | (refine cndF rfl ?_; (try (conv => whnf)))))
  refine ⟨x, p, q, W, t, rfl, ek, hw, ht, fun r hr => kb r (by unfold bothO; rw [hr]), fun h1 => ?_⟩
  ((try (conv => whnf)); repeat (first | (refine cndT rfl ?_; (try (conv => whnf))) | (refine cndF rfl ?_; (try (conv => whnf)))))
  refine ⟨x, dx, _, rfl, ho, webF_n (by decide +kernel) (by decide +kernel), ?_⟩
  ((try (conv => whnf)); repeat (first | (refine cndT rfl ?_; (try (conv => whnf))) | (refine cndF rfl ?_; (try (conv => whnf)))))
  refine ⟨x, p, q, W, u, rfl, ek, hw, hu, fun r hr => kb r (by unfold bothO; rw [h1, hr]), fun h2 => ?_⟩
  have hb : bothO W b c = none := by unfold bothO; rw [h1, h2]
  obtain ⟨n, rfl, hn⟩ := placeO_ok h1
  obtain ⟨m, rfl, hm⟩ := placeO_ok h2
  have k := kg n m rfl rfl hb
  ((try (conv => whnf)); repeat (first | (refine cndT rfl ?_; (try (conv => whnf))) | (refine cndF rfl ?_; (try (conv => whnf)))))
  refine ⟨x, dx, _, rfl, ho, webF_n (by decide +kernel) (by decide +kernel), ?_⟩
  ((try (conv => whnf)); repeat (first | (refine cndT rfl ?_; (try (conv => whnf))) | (refine cndF rfl ?_; (try (conv => whnf)))))
  refine ⟨x, p, q, W, n, m, rfl, hw, rfl, rfl, fun T u v H1 e s1 eT => ?_, fun H1 e s1 => ?_⟩
  · have hw1 := hw.same s1
    ((try (conv => whnf)); repeat (first | (refine cndT rfl ?_; (try (conv => whnf))) | (refine cndF rfl ?_; (try (conv => whnf)))))
    refine ⟨rfl, ?_⟩
    ((try (conv => whnf)); repeat (first | (refine cndT rfl ?_; (try (conv => whnf))) | (refine cndF rfl ?_; (try (conv => whnf)))))
    refine ⟨x, _, dx, _, _, rfl, s1 _ _ ho, hw.k.cls, hw.k.nk, webF_k, ?_⟩
    obtain ⟨w, hw2⟩ := knotW_some e
    have g := hw1.kget eT
    rw [hw2] at g
    refine ixD g ?_
    have k := k H1 s1
    rw [tieW_at e hw2] at k
    exact k
  · ((try (conv => whnf)); repeat (first | (refine cndT rfl ?_; (try (conv => whnf))) | (refine cndF rfl ?_; (try (conv => whnf)))))
    refine ⟨rfl, ?_⟩
    ((try (conv => whnf)); repeat (first | (refine cndT rfl ?_; (try (conv => whnf))) | (refine cndF rfl ?_; (try (conv => whnf)))))
    have k := k H1 s1
    rw [show tieW W n m = 0 by unfold tieW; rw [e]] at k
    exact k
theorem pure_Web_names {K a H Q E} (h : P_Web_names K a H Q E) : t_Web_names K E { nx := fun _ H' => Q .non H', rt := Q } [some a] H := by
  obtain ⟨x, p, q, W, rfl, hw, k⟩ := h
  obtain ⟨dx, ho⟩ := hw.o
  ((try (conv => whnf)); repeat (first | (refine cndT rfl ?_; (try (conv => whnf))) | (refine cndF rfl ?_; (try (conv => whnf)))))
  refine ⟨x, _, dx, _, _, rfl, ho, hw.k.cls, hw.k.nh, webF_h, ?_⟩
  left
  refine ⟨p, _, rfl, hw.hv, ?_⟩
  (intro l n1; generalize hG : _root_.L2.upd _ l _ = H1; have s1 := sameOf n1 hG; have e1 := atOf hG; clear hG; ((try (conv => whnf)); repeat (first | (refine cndT rfl ?_; (try (conv => whnf))) | (refine cndF rfl ?_; (try (conv => whnf))))))
  refine k l H1 n1 s1 ?_
  rw [e1]
  unfold emb
  rw [List.map_map]
  rfl
theorem pure_Web_init {K a H Q E} (h : P_Web_init K a H Q E) : t_Web_init K E { nx := fun _ H' => Q .non H', rt := Q } [some a] H := by
  obtain ⟨x, dx, rfl, hk, ho, k⟩ := h
  ((try (conv => whnf)); repeat (first | (refine cndT rfl ?_; (try (conv => whnf))) | (refine cndF rfl ?_; (try (conv => whnf)))))
  left
  (intro p n1; generalize hG : _root_.L2.upd _ p _ = H1; have s1 := sameOf n1 hG; have e1 := atOf hG; clear hG; ((try (conv => whnf)); repeat (first | (refine cndT rfl ?_; (try (conv => whnf))) | (refine cndF rfl ?_; (try (conv => whnf))))))
  refine ⟨x, wC K, dx, [], rfl, s1 _ _ ho, hk.cls, hk.nh, by decide, ?_⟩
  (generalize hG : _root_.L2.upd _ x _ = H2; have b2 := butOf hG; have e2 := atOf hG; clear hG; ((try (conv => whnf)); repeat (first | (refine cndT rfl ?_; (try (conv => whnf))) | (refine cndF rfl ?_; (try (conv => whnf))))))
  right
  (intro q n2; generalize hG : _root_.L2.upd _ q _ = H3; have s3 := sameOf n2 hG; have e3 := atOf hG; clear hG; ((try (conv => whnf)); repeat (first | (refine cndT rfl ?_; (try (conv => whnf))) | (refine cndF rfl ?_; (try (conv => whnf))))))
  refine ⟨x, wC K, dx, _, rfl, s3 _ _ e2, hk.cls, hk.nk, by show 1 < 1000; decide, ?_⟩
  (generalize hG : _root_.L2.upd _ x _ = H4; have b4 := butOf hG; have e4 := atOf hG; clear hG; ((try (conv => whnf)); repeat (first | (refine cndT rfl ?_; (try (conv => whnf))) | (refine cndF rfl ?_; (try (conv => whnf))))))
  have n1' : x ≠ p := ne_of_none ho n1
  have n2' : x ≠ q := ne_of_none e2 n2
  have nq : H q = none := s1.free (by
    cases hq : H1 q with
    | none => rfl
    | some o => have y := b2.at hq (fun z => by rw [z, e2] at n2; cases n2); rw [n2] at y; cases y)
  refine k p q H4 n1 nq ⟨hk, ⟨dx, e4⟩, b4.at (s3 _ _ (b2.at e1 n1'.symm)) n1'.symm, b4.at e3 n2'.symm⟩ ?_
  exact (((Kx.same s1).trans (.but b2 (by simp))).trans (.same s3)).trans (.but b4 (by simp))
theorem dropA_none {α : Type} [DecidableEq α] {l : List (α × Int)} {k : α} (h : k ∉ l.map Prod.fst) : dropA l k = l := by
  unfold dropA
  refine List.filter_eq_self.mpr fun p hp => decide_eq_true fun e => h ?_
  rw [← e]
  exact List.mem_map_of_mem hp
theorem drop_step {l : List ((Str × Str) × Int)} (nd : (l.map Prod.fst).Nodup) {i : Nat} {e : (Str × Str) × Int} (he : l[i]? = some e) (f : (Str × Str) × Int → Bool) :
    dropA ((l.take i).filter f ++ l.drop i) e.1 = (l.take i).filter f ++ l.drop (i + 1) ∧ l.drop i = e :: l.drop (i + 1) ∧ l.take (i + 1) = l.take i ++ [e] := by
  have hi : i < l.length := by
    rcases Nat.lt_or_ge i l.length with h | h
    · exact h
    · rw [List.getElem?_eq_none h] at he; cases he
  have hd : l.drop i = e :: l.drop (i + 1) := by
    rw [List.getElem?_eq_getElem hi] at he
    rw [List.drop_eq_getElem_cons hi, Option.some.inj he]
  have ht : l.take (i + 1) = l.take i ++ [e] := by rw [List.take_add_one, he]; rfl
  have nd2 : ((l.take i).map Prod.fst ++ (e :: l.drop (i + 1)).map Prod.fst).Nodup := by
    rw [← List.map_append, ← hd, List.take_append_drop]
    exact nd
  rw [List.map_cons, List.nodup_append] at nd2
  obtain ⟨_, n2, n3⟩ := nd2
  rw [List.nodup_cons] at n2
  refine ⟨?_, hd, ht⟩
  have a1 : dropA ((l.take i).filter f) e.1 = (l.take i).filter f := dropA_none fun h => by
    obtain ⟨z, hz, ez⟩ := List.mem_map.mp h
    exact n3 z.1 (List.mem_map_of_mem (List.mem_filter.mp hz).1) e.1 (List.mem_cons_self ..) ez
  have a2 : dropA (e :: l.drop (i + 1)) e.1 = l.drop (i + 1) := by
    show List.filter _ (e :: _) = _
    rw [List.filter_cons_of_neg (by simp)]
    exact dropA_none n2.1
  have a3 : dropA ((l.take i).filter f ++ (e :: l.drop (i + 1))) e.1 = dropA ((l.take i).filter f) e.1 ++ dropA (e :: l.drop (i + 1)) e.1 := List.filter_append ..
  rw [hd, a3, a1, a2]
theorem getA_mid {l : List ((Str × Str) × Int)} (nd : (l.map Prod.fst).Nodup) {i : Nat} {e : (Str × Str) × Int} (he : l[i]? = some e) (f : (Str × Str) × Int → Bool) :
    ∃ w, getA ((l.take i).filter f ++ l.drop i) e.1 = some w := by
  obtain ⟨_, hd, _⟩ := drop_step nd he f
  have hm : e ∈ (l.take i).filter f ++ l.drop i := List.mem_append_right _ (by rw [hd]; exact List.mem_cons_self ..)
  unfold getA
  cases h : List.find? (fun p => decide (p.1 = e.1)) ((l.take i).filter f ++ l.drop i) with
  | none => exact absurd (List.find?_eq_none.mp h e hm) (by simp)
  | some z => exact ⟨z.2, rfl⟩
theorem pure_Web_drop {K a b H Q E} (h : P_Web_drop K a b H Q E) : t_Web_drop K E { nx := fun _ H' => Q .non H', rt := Q } [some a, some b, none, none] H := by
  obtain ⟨x, p, q, W, t0, rfl, ek, hw, ht0, nd, hl, kb, kg⟩ := h
  obtain ⟨dx, ho⟩ := hw.o
  ((try (conv => whnf)); repeat (first | (refine cndT rfl ?_; (try (conv => whnf))) | (refine cndF rfl ?_; (try (conv => whnf)))))
  refine ⟨x, dx, _, rfl, ho, webF_n (by decide +kernel) (by decide +kernel), ?_⟩
  ((try (conv => whnf)); repeat (first | (refine cndT rfl ?_; (try (conv => whnf))) | (refine cndF rfl ?_; (try (conv => whnf)))))
  refine ⟨x, p, q, W, t0, rfl, ek, hw.r, ht0, kb, fun h1 => ?_⟩
  obtain ⟨n, rfl, hn⟩ := placeO_ok h1
  have k := kg n rfl hn
  clear kb kg ht0 h1
  obtain ⟨w0, hw0⟩ := Option.isSome_iff_exists.mp (show (getA W.hv n).isSome = true from hn)
  ((try (conv => whnf)); repeat (first | (refine cndT rfl ?_; (try (conv => whnf))) | (refine cndF rfl ?_; (try (conv => whnf)))))
  right
  ((try (conv => whnf)); repeat (first | (refine cndT rfl ?_; (try (conv => whnf))) | (refine cndF rfl ?_; (try (conv => whnf)))))
  refine ⟨x, _, dx, _, _, rfl, ho, hw.k.cls, hw.k.nh, webF_h, ?_⟩
  ((try (conv => whnf)); repeat (first | (refine cndT rfl ?_; (try (conv => whnf))) | (refine cndF rfl ?_; (try (conv => whnf)))))
  refine ⟨.inr (.inr (.inl ⟨rfl, .inl ⟨_, hw.hv⟩⟩)), ?_⟩
  ((try (conv => whnf)); repeat (first | (refine cndT rfl ?_; (try (conv => whnf))) | (refine cndF rfl ?_; (try (conv => whnf)))))
  refine ⟨p, .str n, .int w0, rfl, rfl, .inl ⟨_, kS n, hw.hv, rfl, ?_, ?_⟩⟩
  · rw [emb_val kS_inj, hw0]; rfl
  (generalize hG : _root_.L2.upd _ p _ = H1; have b1 := butOf hG; have e1 := atOf hG; clear hG; ((try (conv => whnf)); repeat (first | (refine cndT rfl ?_; (try (conv => whnf))) | (refine cndF rfl ?_; (try (conv => whnf))))))
  rw [emb_drop kS_inj] at e1
  have npq : q ≠ p := fun e => by have := hw.hv; rw [← e, hw.kn] at this; cases this
  have nxp : x ≠ p := fun e => by rw [e, hw.hv] at ho; cases ho
  have nxq : x ≠ q := fun e => by rw [e, hw.kn] at ho; cases ho
  have ho1 := b1.at ho nxp
  have kn1 := b1.at hw.kn npq
  left
  ((try (conv => whnf)); repeat (first | (refine cndT rfl ?_; (try (conv => whnf))) | (refine cndF rfl ?_; (try (conv => whnf)))))
  refine ⟨x, _, dx, _, _, rfl, ho1, hw.k.cls, hw.k.nk, webF_k, ?_⟩
  ((try (conv => whnf)); repeat (first | (refine cndT rfl ?_; (try (conv => whnf))) | (refine cndF rfl ?_; (try (conv => whnf)))))
  right
  refine ⟨q, _, rfl, .inl kn1, fun l bs nl hk => ?_⟩
  generalize hG : L2.upd _ l _ = H2
  have s2 := sameOf nl hG
  have e2 := atOf hG
  clear hG
  ((try (conv => whnf)); repeat (first | (refine cndT rfl ?_; (try (conv => whnf))) | (refine cndF rfl ?_; (try (conv => whnf)))))
  left
  refine ⟨_, SqL.of e2, ?_⟩
  have kn2 := s2 _ _ kn1
  have lp : l ≠ p := (ne_of_none e1 nl).symm
  have lq : l ≠ q := (ne_of_none kn1 nl).symm
  have hk2 : ∀ (i : Nat) (e : (Str × Str) × Int), W.kn[i]? = some e → ∃ b, bs[i]? = some b ∧ H2 b = some (.tup [.str e.1.1, .str e.1.2]) := fun i (e : (Str × Str) × Int) he => by
    obtain ⟨b, hb, hb2⟩ := paired_get hk (i := i) (a := (kP e.1, V.int e.2)) (by unfold emb; rw [List.getElem?_map, he]; rfl)
    exact ⟨b, hb, s2 _ _ hb2⟩
  have hlen : bs.length = W.kn.length := by rw [← Paired.length hk, emb_len]
  have hlen' : (bs.map V.ref).length = W.kn.length := by rw [List.length_map, hlen]
  refine forL (SqL.of e2) (fun i σ H' => Kx [p, q] H2 H' ∧ H' p = some (.dK (emb kS (dropA W.hv n))) ∧ H' q = some (.dT (emb kP ((W.kn.take i).filter (fun e => !touch n e) ++ W.kn.drop i))) ∧ ∃ v2 v3 : Option V, σ = [some (.ref x), some (.str n), v2, v3]) ⟨Kx.refl, s2 _ _ e1, kn2, _, _, rfl⟩ ?_ ?_ ?_
  · rintro i σ H' _ ⟨kx, _, _, _⟩
    exact SqL.of (kx l _ (by simp [lp, lq]) e2)
  · rintro i y σ H' hy ⟨kx, hp', hq', v2, v3, rfl⟩
    rw [List.getElem?_map] at hy
    obtain ⟨b, hb, rfl⟩ := Option.map_eq_some_iff.mp hy
    have hi : i < W.kn.length := by
      rw [← hlen]
      rcases Nat.lt_or_ge i bs.length with h | h
      · exact h
      · rw [List.getElem?_eq_none h] at hb; cases hb
    obtain ⟨e, he⟩ : ∃ e, W.kn[i]? = some e := ⟨W.kn[i], List.getElem?_eq_getElem hi⟩
    obtain ⟨b', hb', hbt⟩ := hk2 i e he
    rw [hb] at hb'
    cases hb'
    have nbp : b ≠ p := fun z => by rw [z, s2 _ _ e1] at hbt; cases hbt
    have nbq : b ≠ q := fun z => by rw [z, kn2] at hbt; cases hbt
    have hbt' := kx b _ (by simp [nbp, nbq]) hbt
    have ho' := kx x _ (by simp [nxp, nxq]) (s2 _ _ ho1)
    obtain ⟨d1, d2, d3⟩ := drop_step nd he (fun e => !touch n e)
    obtain ⟨w1, hg⟩ := getA_mid nd he (fun e => !touch n e)
    -- the tie goes
    have away : touch n e = true → (forall D : Ends, (∀ σ' H3, Kx [p, q] H2 H3 → H3 p = some (.dK (emb kS (dropA W.hv n))) → H3 q = some (.dT (emb kP ((W.kn.take (i + 1)).filter (fun e => !touch n e) ++ W.kn.drop (i + 1)))) → (∃ v2 v3 : Option V, σ' = [some (.ref x), some (.str n), v2, v3]) → D.nx σ' H3) →
        (tDrop fun σ H Q => tBM K "list" (fun x xs H Q => rPop x xs H Q ∨ rPopAt x xs H Q) (tFld K (tV 0) "knots") (tCons (tTup (tCons (tV 2) (tCons (tV 3) tNil))) tNil) σ H Q ∨ tBM K "dict" rDPopM (tFld K (tV 0) "knots") (tCons (tTup (tCons (tV 2) (tCons (tV 3) tNil))) tNil) σ H Q) D [some (.ref x), some (.str n), some (.str e.1.1), some (.str e.1.2)] H') := by
      intro ht D hD
      right
      ((try (conv => whnf)); repeat (first | (refine cndT rfl ?_; (try (conv => whnf))) | (refine cndF rfl ?_; (try (conv => whnf)))))
      refine ⟨x, _, dx, _, _, rfl, ho', hw.k.cls, hw.k.nk, webF_k, ?_⟩
      ((try (conv => whnf)); repeat (first | (refine cndT rfl ?_; (try (conv => whnf))) | (refine cndF rfl ?_; (try (conv => whnf)))))
      refine ⟨.inr (.inr (.inl ⟨rfl, .inr ⟨_, hq'⟩⟩)), ?_⟩
      ((try (conv => whnf)); repeat (first | (refine cndT rfl ?_; (try (conv => whnf))) | (refine cndF rfl ?_; (try (conv => whnf)))))
      refine ⟨by show 2 ≤ sizeLine; decide, ?_⟩
      (intro t nt; generalize hG : _root_.L2.upd _ t _ = H3; have s3 := sameOf nt hG; have e3 := atOf hG; clear hG; ((try (conv => whnf)); repeat (first | (refine cndT rfl ?_; (try (conv => whnf))) | (refine cndF rfl ?_; (try (conv => whnf))))))
      refine ⟨q, .ref t, .int w1, rfl, rfl, .inr ⟨_, kP e.1, t, s3 _ _ hq', rfl, e3, ?_, ?_⟩⟩
      · rw [emb_val kP_inj, hg]; rfl
      (generalize hG : _root_.L2.upd _ q _ = H4; have b4 := butOf hG; have e4 := atOf hG; clear hG; ((try (conv => whnf)); repeat (first | (refine cndT rfl ?_; (try (conv => whnf))) | (refine cndF rfl ?_; (try (conv => whnf))))))
      rw [emb_drop kP_inj, d1] at e4
      refine hD _ H4 ((kx.trans (.same s3)).trans (.but b4 (by simp))) (b4.at (s3 _ _ hp') npq.symm) ?_ ⟨_, _, rfl⟩
      rw [e4, d3, List.filter_append, List.filter_cons_of_neg (by simp [ht]), List.filter_nil, List.append_nil]
    have stay : touch n e = false → (W.kn.take i).filter (fun e => !touch n e) ++ W.kn.drop i = (W.kn.take (i + 1)).filter (fun e => !touch n e) ++ W.kn.drop (i + 1) := fun ht => by
      rw [d3, List.filter_append, List.filter_cons_of_pos (by simp [ht]), List.filter_nil, List.append_assoc, d2]
      rfl
    ((try (conv => whnf)); repeat (first | (refine cndT rfl ?_; (try (conv => whnf))) | (refine cndF rfl ?_; (try (conv => whnf)))))
    refine ⟨b, _, rfl, SqT.of hbt', rfl, _, _, rfl, _, _, rfl, rfl, ?_⟩
    ((try (conv => whnf)); repeat (first | (refine cndT rfl ?_; (try (conv => whnf))) | (refine cndF rfl ?_; (try (conv => whnf)))))
    (refine cndB (fun c1 => ?_) (fun c1 => ?_) <;> (try simp only [Bool.not_eq_eq_eq_not, Bool.not_true, Bool.not_false, decide_eq_true_eq, decide_eq_false_iff_not, Int.not_le, Int.not_lt] at c1) <;> ((try (conv => whnf)); repeat (first | (refine cndT rfl ?_; (try (conv => whnf))) | (refine cndF rfl ?_; (try (conv => whnf))))))
    · refine away (by simp [touch, c1]) _ fun σ' H3 a1 a2 a3 a4 => ⟨a1, a2, a3, a4⟩
    · (refine cndB (fun c2 => ?_) (fun c2 => ?_) <;> (try simp only [Bool.not_eq_eq_eq_not, Bool.not_true, Bool.not_false, decide_eq_true_eq, decide_eq_false_iff_not, Int.not_le, Int.not_lt] at c2) <;> ((try (conv => whnf)); repeat (first | (refine cndT rfl ?_; (try (conv => whnf))) | (refine cndF rfl ?_; (try (conv => whnf))))))
      · refine away (by simp [touch, c2]) _ fun σ' H3 a1 a2 a3 a4 => ⟨a1, a2, a3, a4⟩
      · rw [← stay (by simp [touch, c1, c2])]
        exact ⟨kx, hp', hq', _, _, rfl⟩
  · rintro σ H' ⟨kx, hp', hq', v2, v3, rfl⟩
    rw [hlen', List.take_of_length_le (Nat.le_refl _), List.drop_of_length_le (Nat.le_refl _), List.append_nil] at hq'
    exact k H' (((Kx.but b1 (by simp)).trans (.same s2)).trans kx) hp' hq'
theorem unlockK {S : List Addr} {p : Addr} {H HL H' H2 : Hp} {u : HO} (hp : H p = some u) (b : But p H HL) (s : Kx S HL H') (e : L2.upd H' p u = H2) : Kx S H H2 := fun x o n h => by
  subst e
  by_cases c : x = p
  · rw [c, upd_same, ← hp, ← c, h]
  · rw [upd_ne c]
    exact s _ _ n ((b x c).trans h)
theorem getA_app {α : Type} [DecidableEq α] {l : List (α × Int)} {k : α} {v : Int} (h : getA l k = none) : putA l k v = l ++ [(k, v)] := by
  unfold putA
  rw [if_neg]
  intro z
  obtain ⟨p, hp, e⟩ := List.any_eq_true.mp z
  unfold getA at h
  cases hf : List.find? (fun p => decide (p.1 = k)) l with
  | none => exact absurd e (List.find?_eq_none.mp hf p hp)
  | some z => rw [hf] at h; cases h
theorem getA_notin {α : Type} [DecidableEq α] {l : List (α × Int)} {k : α} (h : k ∉ l.map Prod.fst) : getA l k = none := by
  unfold getA
  cases hf : List.find? (fun p => decide (p.1 = k)) l with
  | none => rfl
  | some z =>
    have e := List.find?_some hf
    exact absurd (List.mem_map.mpr ⟨z, List.mem_of_find?_eq_some hf, of_decide_eq_true e⟩) h
theorem isPl_of {W : WebS} {i : Nat} {e : Str × Int} (he : W.hv[i]? = some e) : isPl W e.1 := by
  unfold isPl
  cases h : getA W.hv e.1 with
  | some w => rfl
  | none =>
    unfold getA at h
    cases hf : List.find? (fun p => decide (p.1 = e.1)) W.hv with
    | none => exact absurd (List.find?_eq_none.mp hf e (List.mem_of_getElem? he)) (by simp)
    | some z => rw [hf] at h; cases h
theorem nodup_at {α β : Type} {l : List (α × β)} (nd : (l.map Prod.fst).Nodup) {i : Nat} {e : α × β} (he : l[i]? = some e) : e.1 ∉ (l.take i).map Prod.fst := by
  intro hm
  have hd : l = l.take i ++ e :: l.drop (i + 1) := by
    have hi : i < l.length := by
      rcases Nat.lt_or_ge i l.length with h | h
      · exact h
      · rw [List.getElem?_eq_none h] at he; cases he
    rw [List.getElem?_eq_getElem hi] at he
    have := List.drop_eq_getElem_cons hi
    rw [Option.some.inj he] at this
    rw [← this, List.take_append_drop]
  rw [hd, List.map_append, List.nodup_append] at nd
  obtain ⟨_, _, n3⟩ := nd
  exact n3 _ hm e.1 (by simp) rfl
theorem pure_Web_near {K a b H Q E} (h : P_Web_near K a b H Q E) : t_Web_near K E { nx := fun _ H' => Q .non H', rt := Q } [some a, some b, none, none, none] H := by
  obtain ⟨x, p, q, W, t0, rfl, ek, hw, ht0, nd, hl, kb, kg⟩ := h
  obtain ⟨dx, ho⟩ := hw.o
  ((try (conv => whnf)); repeat (first | (refine cndT rfl ?_; (try (conv => whnf))) | (refine cndF rfl ?_; (try (conv => whnf)))))
  refine ⟨x, dx, _, rfl, ho, webF_n (by decide +kernel) (by decide +kernel), ?_⟩
  ((try (conv => whnf)); repeat (first | (refine cndT rfl ?_; (try (conv => whnf))) | (refine cndF rfl ?_; (try (conv => whnf)))))
  refine ⟨x, p, q, W, t0, rfl, ek, hw.r, ht0, kb, fun h1 => ?_⟩
  obtain ⟨n, rfl, hn⟩ := placeO_ok h1
  have k := kg n rfl hn
  clear kb kg ht0
  ((try (conv => whnf)); repeat (first | (refine cndT rfl ?_; (try (conv => whnf))) | (refine cndF rfl ?_; (try (conv => whnf)))))
  left
  (intro f nf; generalize hG : _root_.L2.upd _ f _ = H1; have s1 := sameOf nf hG; have e1 := atOf hG; clear hG; ((try (conv => whnf)); repeat (first | (refine cndT rfl ?_; (try (conv => whnf))) | (refine cndF rfl ?_; (try (conv => whnf))))))
  have hw1 := hw.same s1
  right
  ((try (conv => whnf)); repeat (first | (refine cndT rfl ?_; (try (conv => whnf))) | (refine cndF rfl ?_; (try (conv => whnf)))))
  refine ⟨p, _, hw1.hv, trivial, fun od => ?_⟩
  (generalize hG : _root_.L2.upd _ p _ = HL; have bL := butOf hG; have eL := atOf hG; clear hG; ((try (conv => whnf)); repeat (first | (refine cndT rfl ?_; (try (conv => whnf))) | (refine cndF rfl ?_; (try (conv => whnf))))))
  have npf : f ≠ p := (ne_of_none hw.hv nf).symm
  have nqf : f ≠ q := (ne_of_none hw.kn nf).symm
  have nxf : f ≠ x := (ne_of_none ho nf).symm
  have nxp : x ≠ p := fun e => by rw [e, hw.hv] at ho; cases ho
  have npq : q ≠ p := fun e => by have := hw.hv; rw [← e, hw.kn] at this; cases this
  have hoL := bL.at (s1 _ _ ho) nxp
  have hwL : WebR K HL x p q W := ⟨hw.k, ⟨dx, hoL⟩, .inr ⟨od, eL⟩, .inl (bL.at (s1 _ _ hw.kn) npq)⟩
  refine ⟨x, _, dx, _, _, rfl, hoL, hw.k.cls, hw.k.nh, webF_h, ?_⟩
  ((try (conv => whnf)); repeat (first | (refine cndT rfl ?_; (try (conv => whnf))) | (refine cndF rfl ?_; (try (conv => whnf)))))
  refine ⟨p, od, rfl, .inl ⟨_, eL, ?_⟩⟩
  refine forIt walk_keys (fun i σ H' => Kx [f] HL H' ∧ H' f = some (.dK (emb kS (nearA W n (W.hv.take i)))) ∧ ∃ v3 v4 : Option V, σ = [some (.ref x), some (.str n), some (.ref f), v3, v4]) ⟨Kx.refl, bL.at e1 npf, _, _, rfl⟩ ?_ ?_ ?_
  · rintro i σ H' _ ⟨kx, _⟩
    exact kx p _ (by simp [Ne.symm npf]) eL
  · rintro i y σ H2 H3 hi ⟨kx, hf, v3, v4, rfl⟩ ⟨rfl, k', v', hk', rfl⟩
    obtain ⟨e, he, e1', e2'⟩ : ∃ e, W.hv[i]? = some e ∧ k' = kS e.1 ∧ v' = .int e.2 := by
      unfold emb at hk'
      rw [List.getElem?_map] at hk'
      obtain ⟨e, he, ee⟩ := Option.map_eq_some_iff.mp hk'
      cases ee
      exact ⟨e, he, rfl, rfl⟩
    subst e1' e2'
    have hw3 : WebR K H3 x p q W := ⟨hw.k, ⟨dx, kx _ _ (by simp [Ne.symm nxf]) hoL⟩, .inr ⟨od, kx p _ (by simp [Ne.symm npf]) eL⟩, .inl (kx q _ (by simp [Ne.symm nqf]) (bL.at (s1 _ _ hw.kn) npq))⟩
    obtain ⟨dx', ho3⟩ := hw3.o
    have hstep : nearA W n (W.hv.take (i + 1)) = nearA W n (W.hv.take i) ++ (if 0 < tieW W n e.1 then [(e.1, tieW W n e.1)] else []) := by
      unfold nearA
      rw [List.take_add_one, he, List.filterMap_append]
      congr 1
      show List.filterMap _ [e] = _
      by_cases c : 0 < tieW W n e.1
      · simp [c]
      · simp [c]
    have hnot : getA (nearA W n (W.hv.take i)) e.1 = none := getA_notin fun hm => by
      refine nodup_at nd he ?_
      obtain ⟨z, hz, ez⟩ := List.mem_map.mp hm
      unfold nearA at hz
      obtain ⟨y, hy, hyz⟩ := List.mem_filterMap.mp hz
      by_cases c : 0 < tieW W n y.1
      · rw [if_pos c] at hyz
        cases hyz
        exact List.mem_map.mpr ⟨y, hy, ez⟩
      · rw [if_neg c] at hyz
        cases hyz
    have hlen : (nearA W n (W.hv.take i)).length ≤ 60 := by
      have h1 := List.length_filterMap_le (fun e : Str × Int => if 0 < tieW W n e.1 then some (e.1, tieW W n e.1) else none) (W.hv.take i)
      rw [List.length_take] at h1
      unfold nearA
      omega
    ((try (conv => whnf)); repeat (first | (refine cndT rfl ?_; (try (conv => whnf))) | (refine cndF rfl ?_; (try (conv => whnf)))))
    refine ⟨x, dx', _, rfl, ho3, webF_n (by decide +kernel) (by decide +kernel), ?_⟩
    ((try (conv => whnf)); repeat (first | (refine cndT rfl ?_; (try (conv => whnf))) | (refine cndF rfl ?_; (try (conv => whnf)))))
    refine ⟨x, p, q, W, "str", "str", rfl, ek, hw3, rfl, rfl, fun r hr => ?_, fun n' m' en em _ H4 s4 => ?_⟩
    · unfold bothO at hr
      rw [h1] at hr
      replace hr : placeO W (.str e.1) = some r := hr
      rw [placeO_str (isPl_of he)] at hr
      cases hr
    cases en
    cases em
    ((try (conv => whnf)); repeat (first | (refine cndT rfl ?_; (try (conv => whnf))) | (refine cndF rfl ?_; (try (conv => whnf)))))
    (refine cndB (fun c1 => ?_) (fun c1 => ?_) <;> (try simp only [Bool.not_eq_eq_eq_not, Bool.not_true, Bool.not_false, decide_eq_true_eq, decide_eq_false_iff_not, Int.not_le, Int.not_lt] at c1) <;> ((try (conv => whnf)); repeat (first | (refine cndT rfl ?_; (try (conv => whnf))) | (refine cndF rfl ?_; (try (conv => whnf))))))
    · rw [if_pos c1] at hstep
      refine setD rfl (DPut.k (k := kS e.1) (s4 _ _ hf) (by rw [emb_len, sizeLine_eq]; omega)) ?_
      (generalize hG : _root_.L2.upd _ f _ = H5; have b5 := butOf hG; have e5 := atOf hG; clear hG; ((try (conv => whnf)); repeat (first | (refine cndT rfl ?_; (try (conv => whnf))) | (refine cndF rfl ?_; (try (conv => whnf))))))
      rw [emb_put kS_inj, getA_app hnot, ← hstep] at e5
      exact ⟨(kx.trans (.same s4)).trans (.but b5 (by simp)), e5, _, _, rfl⟩
    · rw [if_neg (by omega), List.append_nil] at hstep
      rw [hstep]
      exact ⟨kx.trans (.same s4), s4 _ _ hf, _, _, rfl⟩
  · rintro σ H2 ⟨kx, hf, v3, v4, rfl⟩
    refine ⟨kx p _ (by simp [Ne.symm npf]) eL, ?_⟩
    generalize hG : L2.upd _ p _ = G
    have kG : Kx [f] H1 G := unlockK hw1.hv bL kx hG
    have hGf : G f = some (.dK (emb kS (nearA W n W.hv))) := by
      rw [← hG, upd_ne npf, hf, emb_len, List.take_of_length_le (Nat.le_refl _)]
    ((try (conv => whnf)); repeat (first | (refine cndT rfl ?_; (try (conv => whnf))) | (refine cndF rfl ?_; (try (conv => whnf)))))
    refine k f G nf (fun b o e => kG b o (fun z => ?_) (s1 _ _ e)) hGf
    have z2 : b = f := by simpa using z
    rw [z2, nf] at e
    cases e
theorem getA_put {α : Type} [DecidableEq α] (l : List (α × Int)) (k j : α) (v : Int) : getA (putA l k v) j = if j = k then some v else getA l j := by
  have h := valV_put (emb (id : α → α) l) k j (V.int v)
  rw [show putK (emb (id : α → α) l) k (V.int v) = emb id (putA l k v) from emb_put (f := (id : α → α)) (fun _ _ h => h) l k v] at h
  rw [show valV (emb (id : α → α) (putA l k v)) j = (getA (putA l k v) j).map V.int from emb_val (f := (id : α → α)) (fun _ _ h => h) _ j,
    show valV (emb (id : α → α) l) j = (getA l j).map V.int from emb_val (f := (id : α → α)) (fun _ _ h => h) _ j] at h
  by_cases c : j = k
  · rw [if_pos c] at h ⊢
    cases e : getA (putA l k v) j with
    | none => rw [e] at h; cases h
    | some z => rw [e] at h; cases h; rfl
  · rw [if_neg c] at h ⊢
    cases e : getA (putA l k v) j with
    | none =>
      rw [e] at h
      cases e2 : getA l j with
      | none => rfl
      | some z => rw [e2] at h; cases h
    | some z =>
      rw [e] at h
      cases e2 : getA l j with
      | none => rw [e2] at h; cases h
      | some z2 => rw [e2] at h; cases h; rfl
theorem putA_len {α : Type} [DecidableEq α] (l : List (α × Int)) (k : α) (v : Int) : (putA l k v).length ≤ l.length + 1 := by
  unfold putA
  split
  · rw [List.length_map]; omega
  · rw [List.length_append]; simp
theorem rank_lt {l : List (Str × Int)} {n : Str} (h : (getA l n).isSome = true) : rankA l n < l.length ∧ ∃ e, l[rankA l n]? = some e ∧ e.1 = n := by
  have h1 : rankA l n < l.length := by
    unfold rankA
    rw [List.findIdx_lt_length]
    unfold getA at h
    cases hf : List.find? (fun p => decide (p.1 = n)) l with
    | none => rw [hf] at h; cases h
    | some z =>
      have e := List.find?_some hf
      exact ⟨z, List.mem_of_find?_eq_some hf, e⟩
  refine ⟨h1, _, List.getElem?_eq_getElem h1, ?_⟩
  exact of_decide_eq_true (List.findIdx_getElem (w := h1))
theorem rank_at {l : List (Str × Int)} (nd : (l.map Prod.fst).Nodup) {i : Nat} {e : Str × Int} (he : l[i]? = some e) : rankA l e.1 = i := by
  have hi : i < l.length := by
    rcases Nat.lt_or_ge i l.length with h | h
    · exact h
    · rw [List.getElem?_eq_none h] at he; cases he
  have hs : (getA l e.1).isSome = true := isPl_of (W := ⟨l, []⟩) he
  obtain ⟨h1, e2, h2, h3⟩ := rank_lt hs
  have g1 : (l.map Prod.fst)[rankA l e.1]? = some e.1 := by rw [List.getElem?_map, h2, ← h3]; rfl
  have g2 : (l.map Prod.fst)[i]? = some e.1 := by rw [List.getElem?_map, he]; rfl
  exact (List.getElem?_inj (by rw [List.length_map]; exact h1) nd).mp (g1.trans g2.symm)
theorem pure_Web_ties {K a H Q E} (h : P_Web_ties K a H Q E) : t_Web_ties K E { nx := fun _ H' => Q .non H', rt := Q } [some a, none, none, none, none, none, none, none] H := by
  obtain ⟨x, p, q, W, rfl, hw, nd, hl, hkl, hk, k⟩ := h
  obtain ⟨dx, ho⟩ := hw.o
  have nxp : x ≠ p := fun e => by rw [e, hw.hv] at ho; cases ho
  have nxq : x ≠ q := fun e => by rw [e, hw.kn] at ho; cases ho
  have npq : q ≠ p := fun e => by have := hw.hv; rw [← e, hw.kn] at this; cases this
  left
  (intro r nr; generalize hG : _root_.L2.upd _ r _ = H1; have s1 := sameOf nr hG; have e1 := atOf hG; clear hG; ((try (conv => whnf)); repeat (first | (refine cndT rfl ?_; (try (conv => whnf))) | (refine cndF rfl ?_; (try (conv => whnf))))))
  have hw1 := hw.same s1
  have npr : r ≠ p := (ne_of_none hw.hv nr).symm
  have nqr : r ≠ q := (ne_of_none hw.kn nr).symm
  have nxr : r ≠ x := (ne_of_none ho nr).symm
  right
  ((try (conv => whnf)); repeat (first | (refine cndT rfl ?_; (try (conv => whnf))) | (refine cndF rfl ?_; (try (conv => whnf)))))
  refine ⟨p, _, hw1.hv, trivial, fun od => ?_⟩
  (generalize hG : _root_.L2.upd _ p _ = HL; have bL := butOf hG; have eL := atOf hG; clear hG; ((try (conv => whnf)); repeat (first | (refine cndT rfl ?_; (try (conv => whnf))) | (refine cndF rfl ?_; (try (conv => whnf))))))
  refine ⟨x, _, dx, _, _, rfl, bL.at (s1 _ _ ho) nxp, hw.k.cls, hw.k.nh, webF_h, ?_⟩
  ((try (conv => whnf)); repeat (first | (refine cndT rfl ?_; (try (conv => whnf))) | (refine cndF rfl ?_; (try (conv => whnf)))))
  right
  refine ⟨p, od, _, rfl, eL, ?_⟩
  refine forIt walk_enumK (fun i σ H' => Kx [r] HL H' ∧ (∃ R, H' r = some (.dK (emb kS R)) ∧ R.length ≤ i ∧ ∀ j e, W.hv[j]? = some e → j < i → getA R e.1 = some (j : Int)) ∧ ∃ v3 v4 : Option V, σ = [some (.ref x), some (.ref r), none, v3, v4, none, none, none]) ⟨Kx.refl, ⟨[], bL.at e1 npr, Nat.le_refl _, fun j e _ h => absurd h (Nat.not_lt_zero _)⟩, _, _, rfl⟩ ?_ ?_ ?_
  · rintro i σ H' _ ⟨kx, _⟩
    exact kx p _ (by simp [Ne.symm npr]) eL
  · rintro i y σ H2 H3 hi ⟨kx, ⟨R, hR, hRl, hRg⟩, v3, v4, rfl⟩ ⟨T, k', v', hk', rfl, nT, e3⟩
    have s3 := sameOf nT e3.symm
    have eT := atOf e3.symm
    clear e3
    obtain ⟨e, he, e1', e2'⟩ : ∃ e, W.hv[i]? = some e ∧ k' = kS e.1 ∧ v' = .int e.2 := by
      unfold emb at hk'
      rw [List.getElem?_map] at hk'
      obtain ⟨e, he, ee⟩ := Option.map_eq_some_iff.mp hk'
      cases ee
      exact ⟨e, he, rfl, rfl⟩
    subst e1' e2'
    have hi' : i < 60 := by rw [emb_len] at hi; omega
    ((try (conv => whnf)); repeat (first | (refine cndT rfl ?_; (try (conv => whnf))) | (refine cndF rfl ?_; (try (conv => whnf)))))
    refine ⟨T, _, rfl, SqT.of eT, rfl, _, _, rfl, _, _, rfl, rfl, ?_⟩
    ((try (conv => whnf)); repeat (first | (refine cndT rfl ?_; (try (conv => whnf))) | (refine cndF rfl ?_; (try (conv => whnf)))))
    refine setD rfl (DPut.k (k := kS e.1) (s3 _ _ hR) (by rw [emb_len, sizeLine_eq]; omega)) ?_
    (generalize hG : _root_.L2.upd _ r _ = H4; have b4 := butOf hG; have e4 := atOf hG; clear hG; ((try (conv => whnf)); repeat (first | (refine cndT rfl ?_; (try (conv => whnf))) | (refine cndF rfl ?_; (try (conv => whnf))))))
    rw [emb_put kS_inj] at e4
    refine ⟨(kx.trans (.same s3)).trans (.but b4 (by simp)), ⟨_, e4, Nat.le_trans (putA_len ..) (by omega), fun j e' he' hj => ?_⟩, _, _, rfl⟩
    rw [getA_put]
    by_cases c : e'.1 = e.1
    · rw [if_pos c]
      have h1 := rank_at nd he'
      have h2 := rank_at nd he
      rw [c, h2] at h1
      rw [h1]
    · rw [if_neg c]
      refine hRg j e' he' ?_
      rcases Nat.lt_or_ge j i with h | h
      · exact h
      · have : j = i := by omega
        rw [this, he] at he'
        cases he'
        exact absurd rfl c
  · rintro σ H2 ⟨kx, ⟨R, hR, hRl, hRg⟩, v3, v4, rfl⟩
    refine ⟨kx p _ (by simp [Ne.symm npr]) eL, ?_⟩
    generalize hG : L2.upd _ p _ = G
    have kG : Kx [r] H1 G := unlockK hw1.hv bL kx hG
    have hGr : G r = some (.dK (emb kS R)) := by rw [← hG, upd_ne npr, hR]
    clear hG
    have sG : Same H G := fun b o e => kG b o (fun z => ne_n (some_ne e) nr (by simpa using z)) (s1 _ _ e)
    have hwG := hw.same sG
    have rk : ∀ n, isPl W n → getA R n = some (rankA W.hv n : Int) := fun n hn => by
      obtain ⟨h1, e, h2, h3⟩ := rank_lt hn
      rw [← h3] at h2 ⊢
      rw [h3] at h2 ⊢
      have := hRg (rankA W.hv n) e h2 (by rw [emb_len]; exact h1)
      rw [h3] at this
      exact this
    ((try (conv => whnf)); repeat (first | (refine cndT rfl ?_; (try (conv => whnf))) | (refine cndF rfl ?_; (try (conv => whnf)))))
    refine ⟨by show 0 ≤ sizeLine; decide, ?_⟩
    (intro l nl; generalize hG : _root_.L2.upd _ l _ = H4; have s4 := sameOf nl hG; have e4 := atOf hG; clear hG; ((try (conv => whnf)); repeat (first | (refine cndT rfl ?_; (try (conv => whnf))) | (refine cndF rfl ?_; (try (conv => whnf))))))
    have nlr : r ≠ l := ne_of_none hGr nl
    have nlq : q ≠ l := ne_of_none hwG.kn nl
    have nlx : x ≠ l := ne_of_none (sG _ _ ho) nl
    have hw4 := hwG.same s4
    refine ⟨q, _, hw4.kn, trivial, fun od2 => ?_⟩
    (generalize hG : _root_.L2.upd _ q _ = HM; have bM := butOf hG; have eM := atOf hG; clear hG; ((try (conv => whnf)); repeat (first | (refine cndT rfl ?_; (try (conv => whnf))) | (refine cndF rfl ?_; (try (conv => whnf))))))
    refine ⟨x, _, dx, _, _, rfl, bM.at (s4 _ _ (sG _ _ ho)) nxq, hw.k.cls, hw.k.nk, webF_k, ?_⟩
    ((try (conv => whnf)); repeat (first | (refine cndT rfl ?_; (try (conv => whnf))) | (refine cndF rfl ?_; (try (conv => whnf)))))
    refine ⟨q, od2, rfl, .inr ⟨_, eM, ?_⟩⟩
    refine forIt walk_itemsT (fun i σ H' => Kx [l] HM H' ∧ (∃ ts, H' l = some (.lst (ts.map V.ref)) ∧ ts.length = i ∧ Paired (isTie H') ts ((W.kn.map (tieT W)).take i)) ∧ ∃ v3 v4 v5 v6 v7 : Option V, σ = [some (.ref x), some (.ref r), some (.ref l), v3, v4, v5, v6, v7]) ⟨Kx.refl, ⟨[], bM.at e4 nlq.symm, rfl, .nil⟩, _, _, _, _, _, rfl⟩ ?_ ?_ ?_
    · rintro i σ H' _ ⟨kx, _⟩
      exact kx q _ (by simp [nlq]) eM
    · rintro i y σ H5 H6 hi ⟨kx, ⟨ts, hts, htl, htp⟩, v3, v4, v5, v6, v7, rfl⟩ ⟨T, k', v', kq, hk', hkq, rfl, nT, e6⟩
      have s6 := sameOf nT e6.symm
      have eT := atOf e6.symm
      clear e6
      obtain ⟨e, he, e1', e2'⟩ : ∃ e, W.kn[i]? = some e ∧ k' = kP e.1 ∧ v' = .int e.2 := by
        unfold emb at hk'
        rw [List.getElem?_map] at hk'
        obtain ⟨e, he, ee⟩ := Option.map_eq_some_iff.mp hk'
        cases ee
        exact ⟨e, he, rfl, rfl⟩
      subst e1' e2'
      have hi' : i < 200 := by rw [emb_len] at hi; omega
      obtain ⟨p1, p2⟩ := hk e (List.mem_of_getElem? he)
      have g1 : DGet H6 r (.str e.1.1) (some (.int (rankA W.hv e.1.1 : Int))) := by
        have hr6 := s6 _ _ (kx r _ (by simp [nlr]) (bM.at (s4 _ _ hGr) nqr))
        have := DGet.k (k := kS e.1.1) hr6
        rw [emb_val kS_inj, rk _ p1] at this
        exact this
      have g2 : DGet H6 r (.str e.1.2) (some (.int (rankA W.hv e.1.2 : Int))) := by
        have hr6 := s6 _ _ (kx r _ (by simp [nlr]) (bM.at (s4 _ _ hGr) nqr))
        have := DGet.k (k := kS e.1.2) hr6
        rw [emb_val kS_inj, rk _ p2] at this
        exact this
      have htk : (W.kn.map (tieT W)).take (i + 1) = (W.kn.map (tieT W)).take i ++ [tieT W e] := by
        rw [List.take_add_one, List.getElem?_map, he]; rfl
      have hl6 := s6 _ _ hts
      ((try (conv => whnf)); repeat (first | (refine cndT rfl ?_; (try (conv => whnf))) | (refine cndF rfl ?_; (try (conv => whnf)))))
      refine ⟨T, _, rfl, SqT.of eT, rfl, _, _, rfl, kq, _, rfl, SqT.of (s6 _ _ hkq), rfl, _, _, rfl, _, _, rfl, rfl, _, _, rfl, rfl, ?_⟩
      ((try (conv => whnf)); repeat (first | (refine cndT rfl ?_; (try (conv => whnf))) | (refine cndF rfl ?_; (try (conv => whnf)))))
      refine ixD g1 ?_
      ((try (conv => whnf)); repeat (first | (refine cndT rfl ?_; (try (conv => whnf))) | (refine cndF rfl ?_; (try (conv => whnf)))))
      refine ixD g2 ?_
      ((try (conv => whnf)); repeat (first | (refine cndT rfl ?_; (try (conv => whnf))) | (refine cndF rfl ?_; (try (conv => whnf)))))
      have fin : ∀ (t : Addr) (H7 H8 : Hp), Same H6 H7 → H7 t = some (.tup [.str (tieT W e).1.1, .str (tieT W e).1.2, .int (tieT W e).2]) → But l H7 H8 → H8 l = some (.lst (ts.map V.ref ++ [.ref t])) →
          Kx [l] HM H8 ∧ ∃ ts', H8 l = some (.lst (ts'.map V.ref)) ∧ ts'.length = i + 1 ∧ Paired (isTie H8) ts' ((W.kn.map (tieT W)).take (i + 1)) := fun t H7 H8 s7 et b8 e8 => by
        refine ⟨(kx.trans (.same (s6.trans s7))).trans (.but b8 (by simp)), ts ++ [t], by rw [e8, List.map_append]; rfl, by rw [List.length_append, htl]; rfl, ?_⟩
        rw [htk]
        refine Paired.snoc (Paired.mapP htp fun a b hab => ?_) ?_
        · have h7 := s7 _ _ (s6 _ _ hab)
          exact b8.at h7 (fun z => by rw [z, s7 _ _ hl6] at h7; cases h7)
        · exact b8.at et (fun z => by rw [z, s7 _ _ hl6] at et; cases et)
      (refine cndB (fun c1 => ?_) (fun c1 => ?_) <;> (try simp only [Bool.not_eq_eq_eq_not, Bool.not_true, Bool.not_false, decide_eq_true_eq, decide_eq_false_iff_not, Int.not_le, Int.not_lt] at c1) <;> ((try (conv => whnf)); repeat (first | (refine cndT rfl ?_; (try (conv => whnf))) | (refine cndF rfl ?_; (try (conv => whnf))))))
      · refine ⟨.inl ⟨rfl, _, SqL.of hl6⟩, ?_⟩
        ((try (conv => whnf)); repeat (first | (refine cndT rfl ?_; (try (conv => whnf))) | (refine cndF rfl ?_; (try (conv => whnf)))))
        refine ⟨by show 3 ≤ sizeLine; decide, ?_⟩
        (intro t nt; generalize hG : _root_.L2.upd _ t _ = H7; have s7 := sameOf nt hG; have e7 := atOf hG; clear hG; ((try (conv => whnf)); repeat (first | (refine cndT rfl ?_; (try (conv => whnf))) | (refine cndF rfl ?_; (try (conv => whnf))))))
        refine ⟨l, _, _, rfl, rfl, s7 _ _ hl6, by rw [List.length_map, sizeLine_eq]; omega, ?_⟩
        (generalize hG : _root_.L2.upd _ l _ = H8; have b8 := butOf hG; have e8 := atOf hG; clear hG; ((try (conv => whnf)); repeat (first | (refine cndT rfl ?_; (try (conv => whnf))) | (refine cndF rfl ?_; (try (conv => whnf))))))
        obtain ⟨a1, a2⟩ := fin t H7 H8 s7 (by rw [show tieT W e = e by unfold tieT; rw [if_pos (by omega)]]; exact e7) b8 e8
        exact ⟨a1, a2, _, _, _, _, _, rfl⟩
      · refine ⟨.inl ⟨rfl, _, SqL.of hl6⟩, ?_⟩
        ((try (conv => whnf)); repeat (first | (refine cndT rfl ?_; (try (conv => whnf))) | (refine cndF rfl ?_; (try (conv => whnf)))))
        refine ⟨by show 3 ≤ sizeLine; decide, ?_⟩
        (intro t nt; generalize hG : _root_.L2.upd _ t _ = H7; have s7 := sameOf nt hG; have e7 := atOf hG; clear hG; ((try (conv => whnf)); repeat (first | (refine cndT rfl ?_; (try (conv => whnf))) | (refine cndF rfl ?_; (try (conv => whnf))))))
        refine ⟨l, _, _, rfl, rfl, s7 _ _ hl6, by rw [List.length_map, sizeLine_eq]; omega, ?_⟩
        (generalize hG : _root_.L2.upd _ l _ = H8; have b8 := butOf hG; have e8 := atOf hG; clear hG; ((try (conv => whnf)); repeat (first | (refine cndT rfl ?_; (try (conv => whnf))) | (refine cndF rfl ?_; (try (conv => whnf))))))
        obtain ⟨a1, a2⟩ := fin t H7 H8 s7 (by rw [show tieT W e = ((e.1.2, e.1.1), e.2) by unfold tieT; rw [if_neg (by omega)]]; exact e7) b8 e8
        exact ⟨a1, a2, _, _, _, _, _, rfl⟩
    · rintro σ H5 ⟨kx, ⟨ts, hts, htl, htp⟩, v3, v4, v5, v6, v7, rfl⟩
      refine ⟨kx q _ (by simp [nlq]) eM, ?_⟩
      generalize hG5 : L2.upd _ q _ = G5
      have kG5 : Kx [l] H4 G5 := unlockK hw4.kn bM kx hG5
      have hG5l : G5 l = some (.lst (ts.map V.ref)) := by rw [← hG5, upd_ne nlq.symm, hts]
      ((try (conv => whnf)); repeat (first | (refine cndT rfl ?_; (try (conv => whnf))) | (refine cndF rfl ?_; (try (conv => whnf)))))
      refine k l ts G5 (sG.free nl) (fun b o e => kG5 b o (fun z => ne_n (some_ne (sG _ _ e)) nl (by simpa using z)) (s4 _ _ (sG _ _ e))) hG5l ?_
      rw [emb_len, List.take_of_length_le (by rw [List.length_map]; exact Nat.le_refl _)] at htp
      refine Paired.mapP htp fun a b hab => ?_
      show G5 a = _
      rw [← hG5, upd_ne (fun z => by
        have h2 : H5 a = _ := hab
        rw [z, kx q _ (by simp [nlq]) eM] at h2
        cases h2)]
      exact hab

mutual
theorem eqvR : ∀ d : PyData, d.canLay0 = true → PyData.eqv d d = true
  | .none, _ => rfl
  | .bool b, _ => beq_self_eq_true b
  | .int i, _ => beq_self_eq_true i
  | .str x, _ => beq_self_eq_true x
  | .list xs, h => eqvRA xs h
  | .tuple xs, h => eqvRA xs h
  | .dict _, h => by cases h
theorem eqvRA : ∀ ds : List PyData, PyData.canLayAll0 ds = true → PyData.eqvAll ds ds = true
  | [], _ => rfl
  | d :: ds, h => by
    have h' : (PyData.canLay0 d && PyData.canLayAll0 ds) = true := h
    obtain ⟨h1, h2⟩ := Bool.and_eq_true_iff.mp h'
    show (PyData.eqv d d && PyData.eqvAll ds ds) = true
    rw [eqvR d h1, eqvRA ds h2]
    rfl
end
theorem layAll {ds : List PyData} (h : ∀ d ∈ ds, d.canLay0 = true ∧ d.depth ≤ 60) : PyData.canLayAll0 ds = true ∧ PyData.depthAll ds ≤ 60 := by
  induction ds with
  | nil => exact ⟨rfl, Nat.zero_le _⟩
  | cons d ds ih =>
    obtain ⟨i1, i2⟩ := ih fun e he => h e (List.mem_cons_of_mem _ he)
    obtain ⟨h1, h2⟩ := h d (List.mem_cons_self ..)
    refine ⟨?_, ?_⟩
    · show (PyData.canLay0 d && PyData.canLayAll0 ds) = true
      rw [h1, i1]
      rfl
    · show max (PyData.depth d) (PyData.depthAll ds) ≤ 60
      exact Nat.max_le.mpr ⟨h2, i2⟩
theorem shapedL {ds : List PyData} (h : ∀ d ∈ ds, d.canLay0 = true ∧ d.depth ≤ 60) : SeqAt.shaped (.list ds) = true := by
  obtain ⟨h1, h2⟩ := layAll h
  show (PyData.canLayAll0 ds && decide (PyData.depthAll ds + 1 ≤ 64)) = true
  rw [h1, decide_eq_true (by omega)]
  rfl
/-- a list of things that are told by data -/
theorem dpAll {K : PySem.W.Frag} {H : Hp} {α : Type} {f : α → V} {g : α → PyData} {l : List α} (h : ∀ a ∈ l, Dp K H (f a) (g a)) : DpAll K H (l.map f) (l.map g) := by
  induction l with
  | nil => exact .nil
  | cons a l ih => exact .cons (h a (List.mem_cons_self ..)) (ih fun b hb => h b (List.mem_cons_of_mem _ hb))
theorem dpAllP {K : PySem.W.Frag} {H : Hp} {α β : Type} {R : α → β → Prop} {f : α → V} {g : β → PyData} {l : List α} {m : List β} (p : Paired R l m) (h : ∀ a b, R a b → Dp K H (f a) (g b)) : DpAll K H (l.map f) (m.map g) := by
  induction p with
  | nil => exact .nil
  | cons r t ih => exact .cons (h _ _ r) ih
/-- the same data twice: neither != -/
theorem neSame {K : PySem.W.Frag} {x y : V} {ds : List PyData} {H : Hp} {Q : VK} (h : ∀ d ∈ ds, d.canLay0 = true ∧ d.depth ≤ 60) (hx : Dp K H x (.list ds)) (hy : Dp K H y (.list ds)) (q : Q (.bl false) H) : rNeO K x y H Q := by
  have hs := shapedL h
  refine neDt (b := true) hx hy hs hs (eqvR _ ?_) q
  exact (layAll h).1
def dS (e : Str × Int) : PyData := .str e.1
def dT3 (e : (Str × Str) × Int) : PyData := .tuple [.str e.1.1, .str e.1.2, .int e.2]
def dP2 (e : Str × Int) : PyData := .tuple [.str e.1, .int e.2]
theorem dT3_ok {e : (Str × Str) × Int} (h1 : PyData.strOk e.1.1 = true) (h2 : PyData.strOk e.1.2 = true) : (dT3 e).canLay0 = true ∧ (dT3 e).depth ≤ 60 := by
  refine ⟨?_, by show 1 ≤ 60; decide⟩
  show (PyData.strOk e.1.1 && (PyData.strOk e.1.2 && (true && true))) = true
  rw [h1, h2]
  rfl
theorem dP2_ok {e : Str × Int} (h1 : PyData.strOk e.1 = true) : (dP2 e).canLay0 = true ∧ (dP2 e).depth ≤ 60 := by
  refine ⟨?_, by show 1 ≤ 60; decide⟩
  show (PyData.strOk e.1 && (true && true)) = true
  rw [h1]
  rfl
theorem eqvT {ds : List PyData} (h : ∀ d ∈ ds, d.canLay0 = true ∧ d.depth ≤ 59) : PyData.eqv (.tuple ds) (.tuple ds) = true ∧ SeqAt.shaped (.tuple ds) = true := by
  obtain ⟨h1, h2⟩ := layAll fun d hd => ⟨(h d hd).1, Nat.le_trans (h d hd).2 (by decide)⟩
  refine ⟨eqvRA ds h1, ?_⟩
  show (PyData.canLayAll0 ds && decide (PyData.depthAll ds + 1 ≤ 64)) = true
  rw [h1, decide_eq_true (by omega)]
  rfl
theorem atI_last {α : Type} {vs : List α} {v : α} : atI (vs ++ [v]) (-1) = some v := by
  unfold atI ixN
  rw [if_neg (by decide), List.length_append, List.length_singleton, if_pos (by omega), Option.bind_some, show (-1 + ((vs.length + 1 : Nat) : Int)).toNat = vs.length by omega]
  simp

theorem Kx.more {S S' : List Addr} {H H' : Hp} (k : Kx S H H') (h : ∀ b, b ∈ S → b ∈ S') : Kx S' H H' := fun b o n e => k b o (fun z => n (h b z)) e
theorem WebO.setH {K H H' x p q W hv} (h : WebO K H x p q W) (kx : Kx [p] H H') (e : H' p = some (.dK (emb kS hv))) : WebO K H' x p q ⟨hv, W.kn⟩ := by
  obtain ⟨dx, ho⟩ := h.o
  have n1 : x ≠ p := fun z => by rw [z, h.hv] at ho; cases ho
  have n2 : q ≠ p := fun z => by have y := h.kn; rw [z, h.hv] at y; cases y
  exact ⟨h.k, ⟨dx, kx _ _ (by simp [n1]) ho⟩, e, kx _ _ (by simp [n2]) h.kn⟩
theorem WebO.setK {K H H' x p q W kn} (h : WebO K H x p q W) (kx : Kx [q] H H') (e : H' q = some (.dT (emb kP kn))) : WebO K H' x p q ⟨W.hv, kn⟩ := by
  obtain ⟨dx, ho⟩ := h.o
  have n1 : x ≠ q := fun z => by rw [z, h.kn] at ho; cases ho
  have n2 : p ≠ q := fun z => by have y := h.hv; rw [z, h.kn] at y; cases y
  exact ⟨h.k, ⟨dx, kx _ _ (by simp [n1]) ho⟩, kx _ _ (by simp [n2]) h.hv, e⟩
theorem WebO.setB {K H H' x p q W hv kn} (h : WebO K H x p q W) (kx : Kx [p, q] H H') (e1 : H' p = some (.dK (emb kS hv))) (e2 : H' q = some (.dT (emb kP kn))) : WebO K H' x p q ⟨hv, kn⟩ := by
  obtain ⟨dx, ho⟩ := h.o
  refine ⟨h.k, ⟨dx, kx _ _ (fun z => ?_) ho⟩, e1, e2⟩
  rcases List.mem_cons.mp z with z | z
  · rw [z, h.hv] at ho; cases ho
  · rw [List.mem_singleton.mp z, h.kn] at ho; cases ho
/-- isinstance(e, t) of the caught refusal -/
theorem isX {K : PySem.W.Frag} {a dd : Addr} {c t : Str} {f : List Str} {fs : List (Str × V)} {b : Bool} {H : Hp} {Q : VK} (ek : EK K) (he : (c, f) ∈ errsL) (ht : t ∈ testsL) (hb : decide (c = t) = b) (hd : H dd = some (.xd fs)) (q : Q (.bl b) H) : rIsi2 K a (.ref (He.ga K c)) (some dd) [.ref a, .ref (He.ga K t)] H Q := by
  unfold rIsi2
  right
  unfold rIsX
  refine ⟨_, _, b, rfl, rfl, ek.isc _ he, ⟨fs, hd⟩, .inl ⟨_, fun u hu => hu, ?_⟩, q⟩
  rw [← hb]
  exact ek.kit _ he _ ht
theorem isXv {K : PySem.W.Frag} {a dd : Addr} {c : Str} {f : List Str} {fs : List (Str × V)} {H : Hp} {Q : VK} (ek : EK K) (he : (c, f) ∈ errsL) (hd : H dd = some (.xd fs)) (q : Q (.bl true) H) : rIsi2 K a (.ref (He.ga K c)) (some dd) [.ref a, .ty "ValueError"] H Q := by
  unfold rIsi2
  right
  unfold rIsX
  exact ⟨_, _, true, rfl, rfl, ek.isc _ he, ⟨fs, hd⟩, .inl ⟨_, fun u hu => hu, ek.val _ he⟩, q⟩
theorem fdX {K : PySem.W.Frag} {a dd : Addr} {c n : Str} {f : List Str} {fs : List (Str × V)} {v : V} {H : Hp} {Q : VK} (ek : EK K) (he : (c, f) ∈ errsL) (hf : n ∈ f) (hd : H dd = some (.xd fs)) (l : fs.lookup n = some v) (q : Q v H) : rFdX K a (.ref (He.ga K c)) (some dd) n (.ref a) H Q := by
  unfold rFdX
  exact ⟨rfl, _, dd, fs, v, rfl, ek.fd _ he _ hf, rfl, hd, l, q⟩
theorem pure_hot_l_named {K a c d e H Q E} (h : P_hot_l_named K a c d e H Q E) : t_hot_l_named K a c d E { nx := fun _ H' => Q .non H', rt := Q } [some e, none] H := by
  obtain ⟨r, tv, dd, rfl, ek, rw', rfl, rfl, hd, k⟩ := h
  refine ⟨by show 0 ≤ sizeLine; decide, ?_⟩
  (intro l nl; generalize hG : _root_.L2.upd _ l _ = H1; have s1 := sameOf nl hG; have e1 := atOf hG; clear hG; ((try (conv => whnf)); repeat (first | (refine cndT rfl ?_; (try (conv => whnf))) | (refine cndF rfl ?_; (try (conv => whnf))))))
  have hd1 := s1 _ _ hd
  clear hd
  cases rw' with
  | name v =>
    have he : (("NoName" : Str), (["found"] : List Str)) ∈ errsL := by decide +kernel
    refine cutN ?_
    ((try (conv => whnf)); repeat (first | (refine cndT rfl ?_; (try (conv => whnf))) | (refine cndF rfl ?_; (try (conv => whnf)))))
    refine isX (c := "NoName") ek he (t := "NoName") (b := true) (by decide +kernel) (by decide +kernel) hd1 ?_
    ((try (conv => whnf)); repeat (first | (refine cndT rfl ?_; (try (conv => whnf))) | (refine cndF rfl ?_; (try (conv => whnf)))))
    refine ⟨.inl ⟨rfl, _, SqL.of e1⟩, ?_⟩
    ((try (conv => whnf)); repeat (first | (refine cndT rfl ?_; (try (conv => whnf))) | (refine cndF rfl ?_; (try (conv => whnf)))))
    right
    ((try (conv => whnf)); repeat (first | (refine cndT rfl ?_; (try (conv => whnf))) | (refine cndF rfl ?_; (try (conv => whnf)))))
    refine fdX (c := "NoName") (v := v) ek he (n := "found") (by decide +kernel) hd1 (by rfl) ?_
    ((try (conv => whnf)); repeat (first | (refine cndT rfl ?_; (try (conv => whnf))) | (refine cndF rfl ?_; (try (conv => whnf)))))
    refine ⟨by show 2 ≤ sizeLine; decide, ?_⟩
    (intro T nT; generalize hG : _root_.L2.upd _ T _ = H2; have s2 := sameOf nT hG; have e2 := atOf hG; clear hG; ((try (conv => whnf)); repeat (first | (refine cndT rfl ?_; (try (conv => whnf))) | (refine cndF rfl ?_; (try (conv => whnf))))))
    refine ⟨l, _, _, rfl, rfl, s2 _ _ e1, by decide, ?_⟩
    (generalize hG : _root_.L2.upd _ l _ = H3; have b3 := butOf hG; have e3 := atOf hG; clear hG; ((try (conv => whnf)); repeat (first | (refine cndT rfl ?_; (try (conv => whnf))) | (refine cndF rfl ?_; (try (conv => whnf))))))
    have hd3 := b3.at (s2 _ _ hd1) (fun z => by rw [z, e1] at hd1; cases hd1)
    have hT3 := b3.at e2 (fun z => by rw [z, s2 _ _ e1] at e2; cases e2)
    refine cutN ?_
    ((try (conv => whnf)); repeat (first | (refine cndT rfl ?_; (try (conv => whnf))) | (refine cndF rfl ?_; (try (conv => whnf)))))
    refine isX (c := "NoName") ek he (t := "NoWeight") (b := false) (by decide +kernel) (by decide +kernel) hd3 ?_
    ((try (conv => whnf)); repeat (first | (refine cndT rfl ?_; (try (conv => whnf))) | (refine cndF rfl ?_; (try (conv => whnf)))))
    refine cutN ?_
    ((try (conv => whnf)); repeat (first | (refine cndT rfl ?_; (try (conv => whnf))) | (refine cndF rfl ?_; (try (conv => whnf)))))
    refine isX (c := "NoName") ek he (t := "NoStrength") (b := false) (by decide +kernel) (by decide +kernel) hd3 ?_
    ((try (conv => whnf)); repeat (first | (refine cndT rfl ?_; (try (conv => whnf))) | (refine cndF rfl ?_; (try (conv => whnf)))))
    refine cutN ?_
    ((try (conv => whnf)); repeat (first | (refine cndT rfl ?_; (try (conv => whnf))) | (refine cndF rfl ?_; (try (conv => whnf)))))
    refine isX (c := "NoName") ek he (t := "NoPlace") (b := false) (by decide +kernel) (by decide +kernel) hd3 ?_
    ((try (conv => whnf)); repeat (first | (refine cndT rfl ?_; (try (conv => whnf))) | (refine cndF rfl ?_; (try (conv => whnf)))))
    refine cutN ?_
    ((try (conv => whnf)); repeat (first | (refine cndT rfl ?_; (try (conv => whnf))) | (refine cndF rfl ?_; (try (conv => whnf)))))
    refine isX (c := "NoName") ek he (t := "NoTie") (b := false) (by decide +kernel) (by decide +kernel) hd3 ?_
    ((try (conv => whnf)); repeat (first | (refine cndT rfl ?_; (try (conv => whnf))) | (refine cndF rfl ?_; (try (conv => whnf)))))
    refine cutN ?_
    ((try (conv => whnf)); repeat (first | (refine cndT rfl ?_; (try (conv => whnf))) | (refine cndF rfl ?_; (try (conv => whnf)))))
    refine isX (c := "NoName") ek he (t := "Same") (b := false) (by decide +kernel) (by decide +kernel) hd3 ?_
    ((try (conv => whnf)); repeat (first | (refine cndT rfl ?_; (try (conv => whnf))) | (refine cndF rfl ?_; (try (conv => whnf)))))
    refine cutN ?_
    ((try (conv => whnf)); repeat (first | (refine cndT rfl ?_; (try (conv => whnf))) | (refine cndF rfl ?_; (try (conv => whnf)))))
    refine isX (c := "NoName") ek he (t := "Taken") (b := false) (by decide +kernel) (by decide +kernel) hd3 ?_
    ((try (conv => whnf)); repeat (first | (refine cndT rfl ?_; (try (conv => whnf))) | (refine cndF rfl ?_; (try (conv => whnf)))))
    refine cutN ?_
    ((try (conv => whnf)); repeat (first | (refine cndT rfl ?_; (try (conv => whnf))) | (refine cndF rfl ?_; (try (conv => whnf)))))
    refine isX (c := "NoName") ek he (t := "Tied") (b := false) (by decide +kernel) (by decide +kernel) hd3 ?_
    ((try (conv => whnf)); repeat (first | (refine cndT rfl ?_; (try (conv => whnf))) | (refine cndF rfl ?_; (try (conv => whnf)))))
    refine cutN ?_
    ((try (conv => whnf)); repeat (first | (refine cndT rfl ?_; (try (conv => whnf))) | (refine cndF rfl ?_; (try (conv => whnf)))))
    refine isX (c := "NoName") ek he (t := "TooMany") (b := false) (by decide +kernel) (by decide +kernel) hd3 ?_
    ((try (conv => whnf)); repeat (first | (refine cndT rfl ?_; (try (conv => whnf))) | (refine cndF rfl ?_; (try (conv => whnf)))))
    refine cutN ?_
    ((try (conv => whnf)); repeat (first | (refine cndT rfl ?_; (try (conv => whnf))) | (refine cndF rfl ?_; (try (conv => whnf)))))
    refine isX (c := "NoName") ek he (t := "Beyond") (b := false) (by decide +kernel) (by decide +kernel) hd3 ?_
    ((try (conv => whnf)); repeat (first | (refine cndT rfl ?_; (try (conv => whnf))) | (refine cndF rfl ?_; (try (conv => whnf)))))
    ((try (conv => whnf)); repeat (first | (refine cndT rfl ?_; (try (conv => whnf))) | (refine cndF rfl ?_; (try (conv => whnf)))))
    left
    refine ⟨_, SqL.of e3, ?_⟩
    ((try (conv => whnf)); repeat (first | (refine cndT rfl ?_; (try (conv => whnf))) | (refine cndF rfl ?_; (try (conv => whnf)))))
    refine isXv ek he hd3 ?_
    ((try (conv => whnf)); repeat (first | (refine cndT rfl ?_; (try (conv => whnf))) | (refine cndF rfl ?_; (try (conv => whnf)))))
    refine ixLk e3 (v := .ref T) rfl ?_
    exact k T H3 (fun b o z => b3.at (s2 _ _ (s1 _ _ z)) (fun y => by rw [y, nl] at z; cases z)) hT3
  | weight v =>
    have he : (("NoWeight" : Str), (["found"] : List Str)) ∈ errsL := by decide +kernel
    refine cutN ?_
    ((try (conv => whnf)); repeat (first | (refine cndT rfl ?_; (try (conv => whnf))) | (refine cndF rfl ?_; (try (conv => whnf)))))
    refine isX (c := "NoWeight") ek he (t := "NoName") (b := false) (by decide +kernel) (by decide +kernel) hd1 ?_
    ((try (conv => whnf)); repeat (first | (refine cndT rfl ?_; (try (conv => whnf))) | (refine cndF rfl ?_; (try (conv => whnf)))))
    refine cutN ?_
    ((try (conv => whnf)); repeat (first | (refine cndT rfl ?_; (try (conv => whnf))) | (refine cndF rfl ?_; (try (conv => whnf)))))
    refine isX (c := "NoWeight") ek he (t := "NoWeight") (b := true) (by decide +kernel) (by decide +kernel) hd1 ?_
    ((try (conv => whnf)); repeat (first | (refine cndT rfl ?_; (try (conv => whnf))) | (refine cndF rfl ?_; (try (conv => whnf)))))
    refine ⟨.inl ⟨rfl, _, SqL.of e1⟩, ?_⟩
    ((try (conv => whnf)); repeat (first | (refine cndT rfl ?_; (try (conv => whnf))) | (refine cndF rfl ?_; (try (conv => whnf)))))
    right
    ((try (conv => whnf)); repeat (first | (refine cndT rfl ?_; (try (conv => whnf))) | (refine cndF rfl ?_; (try (conv => whnf)))))
    refine fdX (c := "NoWeight") (v := v) ek he (n := "found") (by decide +kernel) hd1 (by rfl) ?_
    ((try (conv => whnf)); repeat (first | (refine cndT rfl ?_; (try (conv => whnf))) | (refine cndF rfl ?_; (try (conv => whnf)))))
    refine ⟨by show 2 ≤ sizeLine; decide, ?_⟩
    (intro T nT; generalize hG : _root_.L2.upd _ T _ = H2; have s2 := sameOf nT hG; have e2 := atOf hG; clear hG; ((try (conv => whnf)); repeat (first | (refine cndT rfl ?_; (try (conv => whnf))) | (refine cndF rfl ?_; (try (conv => whnf))))))
    refine ⟨l, _, _, rfl, rfl, s2 _ _ e1, by decide, ?_⟩
    (generalize hG : _root_.L2.upd _ l _ = H3; have b3 := butOf hG; have e3 := atOf hG; clear hG; ((try (conv => whnf)); repeat (first | (refine cndT rfl ?_; (try (conv => whnf))) | (refine cndF rfl ?_; (try (conv => whnf))))))
    have hd3 := b3.at (s2 _ _ hd1) (fun z => by rw [z, e1] at hd1; cases hd1)
    have hT3 := b3.at e2 (fun z => by rw [z, s2 _ _ e1] at e2; cases e2)
    refine cutN ?_
    ((try (conv => whnf)); repeat (first | (refine cndT rfl ?_; (try (conv => whnf))) | (refine cndF rfl ?_; (try (conv => whnf)))))
    refine isX (c := "NoWeight") ek he (t := "NoStrength") (b := false) (by decide +kernel) (by decide +kernel) hd3 ?_
    ((try (conv => whnf)); repeat (first | (refine cndT rfl ?_; (try (conv => whnf))) | (refine cndF rfl ?_; (try (conv => whnf)))))
    refine cutN ?_
    ((try (conv => whnf)); repeat (first | (refine cndT rfl ?_; (try (conv => whnf))) | (refine cndF rfl ?_; (try (conv => whnf)))))
    refine isX (c := "NoWeight") ek he (t := "NoPlace") (b := false) (by decide +kernel) (by decide +kernel) hd3 ?_
    ((try (conv => whnf)); repeat (first | (refine cndT rfl ?_; (try (conv => whnf))) | (refine cndF rfl ?_; (try (conv => whnf)))))
    refine cutN ?_
    ((try (conv => whnf)); repeat (first | (refine cndT rfl ?_; (try (conv => whnf))) | (refine cndF rfl ?_; (try (conv => whnf)))))
    refine isX (c := "NoWeight") ek he (t := "NoTie") (b := false) (by decide +kernel) (by decide +kernel) hd3 ?_
    ((try (conv => whnf)); repeat (first | (refine cndT rfl ?_; (try (conv => whnf))) | (refine cndF rfl ?_; (try (conv => whnf)))))
    refine cutN ?_
    ((try (conv => whnf)); repeat (first | (refine cndT rfl ?_; (try (conv => whnf))) | (refine cndF rfl ?_; (try (conv => whnf)))))
    refine isX (c := "NoWeight") ek he (t := "Same") (b := false) (by decide +kernel) (by decide +kernel) hd3 ?_
    ((try (conv => whnf)); repeat (first | (refine cndT rfl ?_; (try (conv => whnf))) | (refine cndF rfl ?_; (try (conv => whnf)))))
    refine cutN ?_
    ((try (conv => whnf)); repeat (first | (refine cndT rfl ?_; (try (conv => whnf))) | (refine cndF rfl ?_; (try (conv => whnf)))))
    refine isX (c := "NoWeight") ek he (t := "Taken") (b := false) (by decide +kernel) (by decide +kernel) hd3 ?_
    ((try (conv => whnf)); repeat (first | (refine cndT rfl ?_; (try (conv => whnf))) | (refine cndF rfl ?_; (try (conv => whnf)))))
    refine cutN ?_
    ((try (conv => whnf)); repeat (first | (refine cndT rfl ?_; (try (conv => whnf))) | (refine cndF rfl ?_; (try (conv => whnf)))))
    refine isX (c := "NoWeight") ek he (t := "Tied") (b := false) (by decide +kernel) (by decide +kernel) hd3 ?_
    ((try (conv => whnf)); repeat (first | (refine cndT rfl ?_; (try (conv => whnf))) | (refine cndF rfl ?_; (try (conv => whnf)))))
    refine cutN ?_
    ((try (conv => whnf)); repeat (first | (refine cndT rfl ?_; (try (conv => whnf))) | (refine cndF rfl ?_; (try (conv => whnf)))))
    refine isX (c := "NoWeight") ek he (t := "TooMany") (b := false) (by decide +kernel) (by decide +kernel) hd3 ?_
    ((try (conv => whnf)); repeat (first | (refine cndT rfl ?_; (try (conv => whnf))) | (refine cndF rfl ?_; (try (conv => whnf)))))
    refine cutN ?_
    ((try (conv => whnf)); repeat (first | (refine cndT rfl ?_; (try (conv => whnf))) | (refine cndF rfl ?_; (try (conv => whnf)))))
    refine isX (c := "NoWeight") ek he (t := "Beyond") (b := false) (by decide +kernel) (by decide +kernel) hd3 ?_
    ((try (conv => whnf)); repeat (first | (refine cndT rfl ?_; (try (conv => whnf))) | (refine cndF rfl ?_; (try (conv => whnf)))))
    ((try (conv => whnf)); repeat (first | (refine cndT rfl ?_; (try (conv => whnf))) | (refine cndF rfl ?_; (try (conv => whnf)))))
    left
    refine ⟨_, SqL.of e3, ?_⟩
    ((try (conv => whnf)); repeat (first | (refine cndT rfl ?_; (try (conv => whnf))) | (refine cndF rfl ?_; (try (conv => whnf)))))
    refine isXv ek he hd3 ?_
    ((try (conv => whnf)); repeat (first | (refine cndT rfl ?_; (try (conv => whnf))) | (refine cndF rfl ?_; (try (conv => whnf)))))
    refine ixLk e3 (v := .ref T) rfl ?_
    exact k T H3 (fun b o z => b3.at (s2 _ _ (s1 _ _ z)) (fun y => by rw [y, nl] at z; cases z)) hT3
  | strength v =>
    have he : (("NoStrength" : Str), (["found"] : List Str)) ∈ errsL := by decide +kernel
    refine cutN ?_
    ((try (conv => whnf)); repeat (first | (refine cndT rfl ?_; (try (conv => whnf))) | (refine cndF rfl ?_; (try (conv => whnf)))))
    refine isX (c := "NoStrength") ek he (t := "NoName") (b := false) (by decide +kernel) (by decide +kernel) hd1 ?_
    ((try (conv => whnf)); repeat (first | (refine cndT rfl ?_; (try (conv => whnf))) | (refine cndF rfl ?_; (try (conv => whnf)))))
    refine cutN ?_
    ((try (conv => whnf)); repeat (first | (refine cndT rfl ?_; (try (conv => whnf))) | (refine cndF rfl ?_; (try (conv => whnf)))))
    refine isX (c := "NoStrength") ek he (t := "NoWeight") (b := false) (by decide +kernel) (by decide +kernel) hd1 ?_
    ((try (conv => whnf)); repeat (first | (refine cndT rfl ?_; (try (conv => whnf))) | (refine cndF rfl ?_; (try (conv => whnf)))))
    refine cutN ?_
    ((try (conv => whnf)); repeat (first | (refine cndT rfl ?_; (try (conv => whnf))) | (refine cndF rfl ?_; (try (conv => whnf)))))
    refine isX (c := "NoStrength") ek he (t := "NoStrength") (b := true) (by decide +kernel) (by decide +kernel) hd1 ?_
    ((try (conv => whnf)); repeat (first | (refine cndT rfl ?_; (try (conv => whnf))) | (refine cndF rfl ?_; (try (conv => whnf)))))
    refine ⟨.inl ⟨rfl, _, SqL.of e1⟩, ?_⟩
    ((try (conv => whnf)); repeat (first | (refine cndT rfl ?_; (try (conv => whnf))) | (refine cndF rfl ?_; (try (conv => whnf)))))
    right
    ((try (conv => whnf)); repeat (first | (refine cndT rfl ?_; (try (conv => whnf))) | (refine cndF rfl ?_; (try (conv => whnf)))))
    refine fdX (c := "NoStrength") (v := v) ek he (n := "found") (by decide +kernel) hd1 (by rfl) ?_
    ((try (conv => whnf)); repeat (first | (refine cndT rfl ?_; (try (conv => whnf))) | (refine cndF rfl ?_; (try (conv => whnf)))))
    refine ⟨by show 2 ≤ sizeLine; decide, ?_⟩
    (intro T nT; generalize hG : _root_.L2.upd _ T _ = H2; have s2 := sameOf nT hG; have e2 := atOf hG; clear hG; ((try (conv => whnf)); repeat (first | (refine cndT rfl ?_; (try (conv => whnf))) | (refine cndF rfl ?_; (try (conv => whnf))))))
    refine ⟨l, _, _, rfl, rfl, s2 _ _ e1, by decide, ?_⟩
    (generalize hG : _root_.L2.upd _ l _ = H3; have b3 := butOf hG; have e3 := atOf hG; clear hG; ((try (conv => whnf)); repeat (first | (refine cndT rfl ?_; (try (conv => whnf))) | (refine cndF rfl ?_; (try (conv => whnf))))))
    have hd3 := b3.at (s2 _ _ hd1) (fun z => by rw [z, e1] at hd1; cases hd1)
    have hT3 := b3.at e2 (fun z => by rw [z, s2 _ _ e1] at e2; cases e2)
    refine cutN ?_
    ((try (conv => whnf)); repeat (first | (refine cndT rfl ?_; (try (conv => whnf))) | (refine cndF rfl ?_; (try (conv => whnf)))))
    refine isX (c := "NoStrength") ek he (t := "NoPlace") (b := false) (by decide +kernel) (by decide +kernel) hd3 ?_
    ((try (conv => whnf)); repeat (first | (refine cndT rfl ?_; (try (conv => whnf))) | (refine cndF rfl ?_; (try (conv => whnf)))))
    refine cutN ?_
    ((try (conv => whnf)); repeat (first | (refine cndT rfl ?_; (try (conv => whnf))) | (refine cndF rfl ?_; (try (conv => whnf)))))
    refine isX (c := "NoStrength") ek he (t := "NoTie") (b := false) (by decide +kernel) (by decide +kernel) hd3 ?_
    ((try (conv => whnf)); repeat (first | (refine cndT rfl ?_; (try (conv => whnf))) | (refine cndF rfl ?_; (try (conv => whnf)))))
    refine cutN ?_
    ((try (conv => whnf)); repeat (first | (refine cndT rfl ?_; (try (conv => whnf))) | (refine cndF rfl ?_; (try (conv => whnf)))))
    refine isX (c := "NoStrength") ek he (t := "Same") (b := false) (by decide +kernel) (by decide +kernel) hd3 ?_
    ((try (conv => whnf)); repeat (first | (refine cndT rfl ?_; (try (conv => whnf))) | (refine cndF rfl ?_; (try (conv => whnf)))))
    refine cutN ?_
    ((try (conv => whnf)); repeat (first | (refine cndT rfl ?_; (try (conv => whnf))) | (refine cndF rfl ?_; (try (conv => whnf)))))
    refine isX (c := "NoStrength") ek he (t := "Taken") (b := false) (by decide +kernel) (by decide +kernel) hd3 ?_
    ((try (conv => whnf)); repeat (first | (refine cndT rfl ?_; (try (conv => whnf))) | (refine cndF rfl ?_; (try (conv => whnf)))))
    refine cutN ?_
    ((try (conv => whnf)); repeat (first | (refine cndT rfl ?_; (try (conv => whnf))) | (refine cndF rfl ?_; (try (conv => whnf)))))
    refine isX (c := "NoStrength") ek he (t := "Tied") (b := false) (by decide +kernel) (by decide +kernel) hd3 ?_
    ((try (conv => whnf)); repeat (first | (refine cndT rfl ?_; (try (conv => whnf))) | (refine cndF rfl ?_; (try (conv => whnf)))))
    refine cutN ?_
    ((try (conv => whnf)); repeat (first | (refine cndT rfl ?_; (try (conv => whnf))) | (refine cndF rfl ?_; (try (conv => whnf)))))
    refine isX (c := "NoStrength") ek he (t := "TooMany") (b := false) (by decide +kernel) (by decide +kernel) hd3 ?_
    ((try (conv => whnf)); repeat (first | (refine cndT rfl ?_; (try (conv => whnf))) | (refine cndF rfl ?_; (try (conv => whnf)))))
    refine cutN ?_
    ((try (conv => whnf)); repeat (first | (refine cndT rfl ?_; (try (conv => whnf))) | (refine cndF rfl ?_; (try (conv => whnf)))))
    refine isX (c := "NoStrength") ek he (t := "Beyond") (b := false) (by decide +kernel) (by decide +kernel) hd3 ?_
    ((try (conv => whnf)); repeat (first | (refine cndT rfl ?_; (try (conv => whnf))) | (refine cndF rfl ?_; (try (conv => whnf)))))
    ((try (conv => whnf)); repeat (first | (refine cndT rfl ?_; (try (conv => whnf))) | (refine cndF rfl ?_; (try (conv => whnf)))))
    left
    refine ⟨_, SqL.of e3, ?_⟩
    ((try (conv => whnf)); repeat (first | (refine cndT rfl ?_; (try (conv => whnf))) | (refine cndF rfl ?_; (try (conv => whnf)))))
    refine isXv ek he hd3 ?_
    ((try (conv => whnf)); repeat (first | (refine cndT rfl ?_; (try (conv => whnf))) | (refine cndF rfl ?_; (try (conv => whnf)))))
    refine ixLk e3 (v := .ref T) rfl ?_
    exact k T H3 (fun b o z => b3.at (s2 _ _ (s1 _ _ z)) (fun y => by rw [y, nl] at z; cases z)) hT3
  | place v =>
    have he : (("NoPlace" : Str), (["found"] : List Str)) ∈ errsL := by decide +kernel
    refine cutN ?_
    ((try (conv => whnf)); repeat (first | (refine cndT rfl ?_; (try (conv => whnf))) | (refine cndF rfl ?_; (try (conv => whnf)))))
    refine isX (c := "NoPlace") ek he (t := "NoName") (b := false) (by decide +kernel) (by decide +kernel) hd1 ?_
    ((try (conv => whnf)); repeat (first | (refine cndT rfl ?_; (try (conv => whnf))) | (refine cndF rfl ?_; (try (conv => whnf)))))
    refine cutN ?_
    ((try (conv => whnf)); repeat (first | (refine cndT rfl ?_; (try (conv => whnf))) | (refine cndF rfl ?_; (try (conv => whnf)))))
    refine isX (c := "NoPlace") ek he (t := "NoWeight") (b := false) (by decide +kernel) (by decide +kernel) hd1 ?_
    ((try (conv => whnf)); repeat (first | (refine cndT rfl ?_; (try (conv => whnf))) | (refine cndF rfl ?_; (try (conv => whnf)))))
    refine cutN ?_
    ((try (conv => whnf)); repeat (first | (refine cndT rfl ?_; (try (conv => whnf))) | (refine cndF rfl ?_; (try (conv => whnf)))))
    refine isX (c := "NoPlace") ek he (t := "NoStrength") (b := false) (by decide +kernel) (by decide +kernel) hd1 ?_
    ((try (conv => whnf)); repeat (first | (refine cndT rfl ?_; (try (conv => whnf))) | (refine cndF rfl ?_; (try (conv => whnf)))))
    refine cutN ?_
    ((try (conv => whnf)); repeat (first | (refine cndT rfl ?_; (try (conv => whnf))) | (refine cndF rfl ?_; (try (conv => whnf)))))
    refine isX (c := "NoPlace") ek he (t := "NoPlace") (b := true) (by decide +kernel) (by decide +kernel) hd1 ?_
    ((try (conv => whnf)); repeat (first | (refine cndT rfl ?_; (try (conv => whnf))) | (refine cndF rfl ?_; (try (conv => whnf)))))
    refine ⟨.inl ⟨rfl, _, SqL.of e1⟩, ?_⟩
    ((try (conv => whnf)); repeat (first | (refine cndT rfl ?_; (try (conv => whnf))) | (refine cndF rfl ?_; (try (conv => whnf)))))
    right
    ((try (conv => whnf)); repeat (first | (refine cndT rfl ?_; (try (conv => whnf))) | (refine cndF rfl ?_; (try (conv => whnf)))))
    refine fdX (c := "NoPlace") (v := v) ek he (n := "found") (by decide +kernel) hd1 (by rfl) ?_
    ((try (conv => whnf)); repeat (first | (refine cndT rfl ?_; (try (conv => whnf))) | (refine cndF rfl ?_; (try (conv => whnf)))))
    refine ⟨by show 2 ≤ sizeLine; decide, ?_⟩
    (intro T nT; generalize hG : _root_.L2.upd _ T _ = H2; have s2 := sameOf nT hG; have e2 := atOf hG; clear hG; ((try (conv => whnf)); repeat (first | (refine cndT rfl ?_; (try (conv => whnf))) | (refine cndF rfl ?_; (try (conv => whnf))))))
    refine ⟨l, _, _, rfl, rfl, s2 _ _ e1, by decide, ?_⟩
    (generalize hG : _root_.L2.upd _ l _ = H3; have b3 := butOf hG; have e3 := atOf hG; clear hG; ((try (conv => whnf)); repeat (first | (refine cndT rfl ?_; (try (conv => whnf))) | (refine cndF rfl ?_; (try (conv => whnf))))))
    have hd3 := b3.at (s2 _ _ hd1) (fun z => by rw [z, e1] at hd1; cases hd1)
    have hT3 := b3.at e2 (fun z => by rw [z, s2 _ _ e1] at e2; cases e2)
    refine cutN ?_
    ((try (conv => whnf)); repeat (first | (refine cndT rfl ?_; (try (conv => whnf))) | (refine cndF rfl ?_; (try (conv => whnf)))))
    refine isX (c := "NoPlace") ek he (t := "NoTie") (b := false) (by decide +kernel) (by decide +kernel) hd3 ?_
    ((try (conv => whnf)); repeat (first | (refine cndT rfl ?_; (try (conv => whnf))) | (refine cndF rfl ?_; (try (conv => whnf)))))
    refine cutN ?_
    ((try (conv => whnf)); repeat (first | (refine cndT rfl ?_; (try (conv => whnf))) | (refine cndF rfl ?_; (try (conv => whnf)))))
    refine isX (c := "NoPlace") ek he (t := "Same") (b := false) (by decide +kernel) (by decide +kernel) hd3 ?_
    ((try (conv => whnf)); repeat (first | (refine cndT rfl ?_; (try (conv => whnf))) | (refine cndF rfl ?_; (try (conv => whnf)))))
    refine cutN ?_
    ((try (conv => whnf)); repeat (first | (refine cndT rfl ?_; (try (conv => whnf))) | (refine cndF rfl ?_; (try (conv => whnf)))))
    refine isX (c := "NoPlace") ek he (t := "Taken") (b := false) (by decide +kernel) (by decide +kernel) hd3 ?_
    ((try (conv => whnf)); repeat (first | (refine cndT rfl ?_; (try (conv => whnf))) | (refine cndF rfl ?_; (try (conv => whnf)))))
    refine cutN ?_
    ((try (conv => whnf)); repeat (first | (refine cndT rfl ?_; (try (conv => whnf))) | (refine cndF rfl ?_; (try (conv => whnf)))))
    refine isX (c := "NoPlace") ek he (t := "Tied") (b := false) (by decide +kernel) (by decide +kernel) hd3 ?_
    ((try (conv => whnf)); repeat (first | (refine cndT rfl ?_; (try (conv => whnf))) | (refine cndF rfl ?_; (try (conv => whnf)))))
    refine cutN ?_
    ((try (conv => whnf)); repeat (first | (refine cndT rfl ?_; (try (conv => whnf))) | (refine cndF rfl ?_; (try (conv => whnf)))))
    refine isX (c := "NoPlace") ek he (t := "TooMany") (b := false) (by decide +kernel) (by decide +kernel) hd3 ?_
    ((try (conv => whnf)); repeat (first | (refine cndT rfl ?_; (try (conv => whnf))) | (refine cndF rfl ?_; (try (conv => whnf)))))
    refine cutN ?_
    ((try (conv => whnf)); repeat (first | (refine cndT rfl ?_; (try (conv => whnf))) | (refine cndF rfl ?_; (try (conv => whnf)))))
    refine isX (c := "NoPlace") ek he (t := "Beyond") (b := false) (by decide +kernel) (by decide +kernel) hd3 ?_
    ((try (conv => whnf)); repeat (first | (refine cndT rfl ?_; (try (conv => whnf))) | (refine cndF rfl ?_; (try (conv => whnf)))))
    ((try (conv => whnf)); repeat (first | (refine cndT rfl ?_; (try (conv => whnf))) | (refine cndF rfl ?_; (try (conv => whnf)))))
    left
    refine ⟨_, SqL.of e3, ?_⟩
    ((try (conv => whnf)); repeat (first | (refine cndT rfl ?_; (try (conv => whnf))) | (refine cndF rfl ?_; (try (conv => whnf)))))
    refine isXv ek he hd3 ?_
    ((try (conv => whnf)); repeat (first | (refine cndT rfl ?_; (try (conv => whnf))) | (refine cndF rfl ?_; (try (conv => whnf)))))
    refine ixLk e3 (v := .ref T) rfl ?_
    exact k T H3 (fun b o z => b3.at (s2 _ _ (s1 _ _ z)) (fun y => by rw [y, nl] at z; cases z)) hT3
  | notie v w =>
    have he : (("NoTie" : Str), (["one", "other"] : List Str)) ∈ errsL := by decide +kernel
    refine cutN ?_
    ((try (conv => whnf)); repeat (first | (refine cndT rfl ?_; (try (conv => whnf))) | (refine cndF rfl ?_; (try (conv => whnf)))))
    refine isX (c := "NoTie") ek he (t := "NoName") (b := false) (by decide +kernel) (by decide +kernel) hd1 ?_
    ((try (conv => whnf)); repeat (first | (refine cndT rfl ?_; (try (conv => whnf))) | (refine cndF rfl ?_; (try (conv => whnf)))))
    refine cutN ?_
    ((try (conv => whnf)); repeat (first | (refine cndT rfl ?_; (try (conv => whnf))) | (refine cndF rfl ?_; (try (conv => whnf)))))
    refine isX (c := "NoTie") ek he (t := "NoWeight") (b := false) (by decide +kernel) (by decide +kernel) hd1 ?_
    ((try (conv => whnf)); repeat (first | (refine cndT rfl ?_; (try (conv => whnf))) | (refine cndF rfl ?_; (try (conv => whnf)))))
    refine cutN ?_
    ((try (conv => whnf)); repeat (first | (refine cndT rfl ?_; (try (conv => whnf))) | (refine cndF rfl ?_; (try (conv => whnf)))))
    refine isX (c := "NoTie") ek he (t := "NoStrength") (b := false) (by decide +kernel) (by decide +kernel) hd1 ?_
    ((try (conv => whnf)); repeat (first | (refine cndT rfl ?_; (try (conv => whnf))) | (refine cndF rfl ?_; (try (conv => whnf)))))
    refine cutN ?_
    ((try (conv => whnf)); repeat (first | (refine cndT rfl ?_; (try (conv => whnf))) | (refine cndF rfl ?_; (try (conv => whnf)))))
    refine isX (c := "NoTie") ek he (t := "NoPlace") (b := false) (by decide +kernel) (by decide +kernel) hd1 ?_
    ((try (conv => whnf)); repeat (first | (refine cndT rfl ?_; (try (conv => whnf))) | (refine cndF rfl ?_; (try (conv => whnf)))))
    refine cutN ?_
    ((try (conv => whnf)); repeat (first | (refine cndT rfl ?_; (try (conv => whnf))) | (refine cndF rfl ?_; (try (conv => whnf)))))
    refine isX (c := "NoTie") ek he (t := "NoTie") (b := true) (by decide +kernel) (by decide +kernel) hd1 ?_
    ((try (conv => whnf)); repeat (first | (refine cndT rfl ?_; (try (conv => whnf))) | (refine cndF rfl ?_; (try (conv => whnf)))))
    refine ⟨.inl ⟨rfl, _, SqL.of e1⟩, ?_⟩
    ((try (conv => whnf)); repeat (first | (refine cndT rfl ?_; (try (conv => whnf))) | (refine cndF rfl ?_; (try (conv => whnf)))))
    right
    ((try (conv => whnf)); repeat (first | (refine cndT rfl ?_; (try (conv => whnf))) | (refine cndF rfl ?_; (try (conv => whnf)))))
    refine fdX (c := "NoTie") (v := v) ek he (n := "one") (by decide +kernel) hd1 (by rfl) ?_
    ((try (conv => whnf)); repeat (first | (refine cndT rfl ?_; (try (conv => whnf))) | (refine cndF rfl ?_; (try (conv => whnf)))))
    right
    ((try (conv => whnf)); repeat (first | (refine cndT rfl ?_; (try (conv => whnf))) | (refine cndF rfl ?_; (try (conv => whnf)))))
    refine fdX (c := "NoTie") (v := w) ek he (n := "other") (by decide +kernel) hd1 (by rfl) ?_
    ((try (conv => whnf)); repeat (first | (refine cndT rfl ?_; (try (conv => whnf))) | (refine cndF rfl ?_; (try (conv => whnf)))))
    refine ⟨by show 3 ≤ sizeLine; decide, ?_⟩
    (intro T nT; generalize hG : _root_.L2.upd _ T _ = H2; have s2 := sameOf nT hG; have e2 := atOf hG; clear hG; ((try (conv => whnf)); repeat (first | (refine cndT rfl ?_; (try (conv => whnf))) | (refine cndF rfl ?_; (try (conv => whnf))))))
    refine ⟨l, _, _, rfl, rfl, s2 _ _ e1, by decide, ?_⟩
    (generalize hG : _root_.L2.upd _ l _ = H3; have b3 := butOf hG; have e3 := atOf hG; clear hG; ((try (conv => whnf)); repeat (first | (refine cndT rfl ?_; (try (conv => whnf))) | (refine cndF rfl ?_; (try (conv => whnf))))))
    have hd3 := b3.at (s2 _ _ hd1) (fun z => by rw [z, e1] at hd1; cases hd1)
    have hT3 := b3.at e2 (fun z => by rw [z, s2 _ _ e1] at e2; cases e2)
    refine cutN ?_
    ((try (conv => whnf)); repeat (first | (refine cndT rfl ?_; (try (conv => whnf))) | (refine cndF rfl ?_; (try (conv => whnf)))))
    refine isX (c := "NoTie") ek he (t := "Same") (b := false) (by decide +kernel) (by decide +kernel) hd3 ?_
    ((try (conv => whnf)); repeat (first | (refine cndT rfl ?_; (try (conv => whnf))) | (refine cndF rfl ?_; (try (conv => whnf)))))
    refine cutN ?_
    ((try (conv => whnf)); repeat (first | (refine cndT rfl ?_; (try (conv => whnf))) | (refine cndF rfl ?_; (try (conv => whnf)))))
    refine isX (c := "NoTie") ek he (t := "Taken") (b := false) (by decide +kernel) (by decide +kernel) hd3 ?_
    ((try (conv => whnf)); repeat (first | (refine cndT rfl ?_; (try (conv => whnf))) | (refine cndF rfl ?_; (try (conv => whnf)))))
    refine cutN ?_
    ((try (conv => whnf)); repeat (first | (refine cndT rfl ?_; (try (conv => whnf))) | (refine cndF rfl ?_; (try (conv => whnf)))))
    refine isX (c := "NoTie") ek he (t := "Tied") (b := false) (by decide +kernel) (by decide +kernel) hd3 ?_
    ((try (conv => whnf)); repeat (first | (refine cndT rfl ?_; (try (conv => whnf))) | (refine cndF rfl ?_; (try (conv => whnf)))))
    refine cutN ?_
    ((try (conv => whnf)); repeat (first | (refine cndT rfl ?_; (try (conv => whnf))) | (refine cndF rfl ?_; (try (conv => whnf)))))
    refine isX (c := "NoTie") ek he (t := "TooMany") (b := false) (by decide +kernel) (by decide +kernel) hd3 ?_
    ((try (conv => whnf)); repeat (first | (refine cndT rfl ?_; (try (conv => whnf))) | (refine cndF rfl ?_; (try (conv => whnf)))))
    refine cutN ?_
    ((try (conv => whnf)); repeat (first | (refine cndT rfl ?_; (try (conv => whnf))) | (refine cndF rfl ?_; (try (conv => whnf)))))
    refine isX (c := "NoTie") ek he (t := "Beyond") (b := false) (by decide +kernel) (by decide +kernel) hd3 ?_
    ((try (conv => whnf)); repeat (first | (refine cndT rfl ?_; (try (conv => whnf))) | (refine cndF rfl ?_; (try (conv => whnf)))))
    ((try (conv => whnf)); repeat (first | (refine cndT rfl ?_; (try (conv => whnf))) | (refine cndF rfl ?_; (try (conv => whnf)))))
    left
    refine ⟨_, SqL.of e3, ?_⟩
    ((try (conv => whnf)); repeat (first | (refine cndT rfl ?_; (try (conv => whnf))) | (refine cndF rfl ?_; (try (conv => whnf)))))
    refine isXv ek he hd3 ?_
    ((try (conv => whnf)); repeat (first | (refine cndT rfl ?_; (try (conv => whnf))) | (refine cndF rfl ?_; (try (conv => whnf)))))
    refine ixLk e3 (v := .ref T) rfl ?_
    exact k T H3 (fun b o z => b3.at (s2 _ _ (s1 _ _ z)) (fun y => by rw [y, nl] at z; cases z)) hT3
  | same v =>
    have he : (("Same" : Str), (["found"] : List Str)) ∈ errsL := by decide +kernel
    refine cutN ?_
    ((try (conv => whnf)); repeat (first | (refine cndT rfl ?_; (try (conv => whnf))) | (refine cndF rfl ?_; (try (conv => whnf)))))
    refine isX (c := "Same") ek he (t := "NoName") (b := false) (by decide +kernel) (by decide +kernel) hd1 ?_
    ((try (conv => whnf)); repeat (first | (refine cndT rfl ?_; (try (conv => whnf))) | (refine cndF rfl ?_; (try (conv => whnf)))))
    refine cutN ?_
    ((try (conv => whnf)); repeat (first | (refine cndT rfl ?_; (try (conv => whnf))) | (refine cndF rfl ?_; (try (conv => whnf)))))
    refine isX (c := "Same") ek he (t := "NoWeight") (b := false) (by decide +kernel) (by decide +kernel) hd1 ?_
    ((try (conv => whnf)); repeat (first | (refine cndT rfl ?_; (try (conv => whnf))) | (refine cndF rfl ?_; (try (conv => whnf)))))
    refine cutN ?_
    ((try (conv => whnf)); repeat (first | (refine cndT rfl ?_; (try (conv => whnf))) | (refine cndF rfl ?_; (try (conv => whnf)))))
    refine isX (c := "Same") ek he (t := "NoStrength") (b := false) (by decide +kernel) (by decide +kernel) hd1 ?_
    ((try (conv => whnf)); repeat (first | (refine cndT rfl ?_; (try (conv => whnf))) | (refine cndF rfl ?_; (try (conv => whnf)))))
    refine cutN ?_
    ((try (conv => whnf)); repeat (first | (refine cndT rfl ?_; (try (conv => whnf))) | (refine cndF rfl ?_; (try (conv => whnf)))))
    refine isX (c := "Same") ek he (t := "NoPlace") (b := false) (by decide +kernel) (by decide +kernel) hd1 ?_
    ((try (conv => whnf)); repeat (first | (refine cndT rfl ?_; (try (conv => whnf))) | (refine cndF rfl ?_; (try (conv => whnf)))))
    refine cutN ?_
    ((try (conv => whnf)); repeat (first | (refine cndT rfl ?_; (try (conv => whnf))) | (refine cndF rfl ?_; (try (conv => whnf)))))
    refine isX (c := "Same") ek he (t := "NoTie") (b := false) (by decide +kernel) (by decide +kernel) hd1 ?_
    ((try (conv => whnf)); repeat (first | (refine cndT rfl ?_; (try (conv => whnf))) | (refine cndF rfl ?_; (try (conv => whnf)))))
    refine cutN ?_
    ((try (conv => whnf)); repeat (first | (refine cndT rfl ?_; (try (conv => whnf))) | (refine cndF rfl ?_; (try (conv => whnf)))))
    refine isX (c := "Same") ek he (t := "Same") (b := true) (by decide +kernel) (by decide +kernel) hd1 ?_
    ((try (conv => whnf)); repeat (first | (refine cndT rfl ?_; (try (conv => whnf))) | (refine cndF rfl ?_; (try (conv => whnf)))))
    refine ⟨.inl ⟨rfl, _, SqL.of e1⟩, ?_⟩
    ((try (conv => whnf)); repeat (first | (refine cndT rfl ?_; (try (conv => whnf))) | (refine cndF rfl ?_; (try (conv => whnf)))))
    right
    ((try (conv => whnf)); repeat (first | (refine cndT rfl ?_; (try (conv => whnf))) | (refine cndF rfl ?_; (try (conv => whnf)))))
    refine fdX (c := "Same") (v := v) ek he (n := "found") (by decide +kernel) hd1 (by rfl) ?_
    ((try (conv => whnf)); repeat (first | (refine cndT rfl ?_; (try (conv => whnf))) | (refine cndF rfl ?_; (try (conv => whnf)))))
    refine ⟨by show 2 ≤ sizeLine; decide, ?_⟩
    (intro T nT; generalize hG : _root_.L2.upd _ T _ = H2; have s2 := sameOf nT hG; have e2 := atOf hG; clear hG; ((try (conv => whnf)); repeat (first | (refine cndT rfl ?_; (try (conv => whnf))) | (refine cndF rfl ?_; (try (conv => whnf))))))
    refine ⟨l, _, _, rfl, rfl, s2 _ _ e1, by decide, ?_⟩
    (generalize hG : _root_.L2.upd _ l _ = H3; have b3 := butOf hG; have e3 := atOf hG; clear hG; ((try (conv => whnf)); repeat (first | (refine cndT rfl ?_; (try (conv => whnf))) | (refine cndF rfl ?_; (try (conv => whnf))))))
    have hd3 := b3.at (s2 _ _ hd1) (fun z => by rw [z, e1] at hd1; cases hd1)
    have hT3 := b3.at e2 (fun z => by rw [z, s2 _ _ e1] at e2; cases e2)
    refine cutN ?_
    ((try (conv => whnf)); repeat (first | (refine cndT rfl ?_; (try (conv => whnf))) | (refine cndF rfl ?_; (try (conv => whnf)))))
    refine isX (c := "Same") ek he (t := "Taken") (b := false) (by decide +kernel) (by decide +kernel) hd3 ?_
    ((try (conv => whnf)); repeat (first | (refine cndT rfl ?_; (try (conv => whnf))) | (refine cndF rfl ?_; (try (conv => whnf)))))
    refine cutN ?_
    ((try (conv => whnf)); repeat (first | (refine cndT rfl ?_; (try (conv => whnf))) | (refine cndF rfl ?_; (try (conv => whnf)))))
    refine isX (c := "Same") ek he (t := "Tied") (b := false) (by decide +kernel) (by decide +kernel) hd3 ?_
    ((try (conv => whnf)); repeat (first | (refine cndT rfl ?_; (try (conv => whnf))) | (refine cndF rfl ?_; (try (conv => whnf)))))
    refine cutN ?_
    ((try (conv => whnf)); repeat (first | (refine cndT rfl ?_; (try (conv => whnf))) | (refine cndF rfl ?_; (try (conv => whnf)))))
    refine isX (c := "Same") ek he (t := "TooMany") (b := false) (by decide +kernel) (by decide +kernel) hd3 ?_
    ((try (conv => whnf)); repeat (first | (refine cndT rfl ?_; (try (conv => whnf))) | (refine cndF rfl ?_; (try (conv => whnf)))))
    refine cutN ?_
    ((try (conv => whnf)); repeat (first | (refine cndT rfl ?_; (try (conv => whnf))) | (refine cndF rfl ?_; (try (conv => whnf)))))
    refine isX (c := "Same") ek he (t := "Beyond") (b := false) (by decide +kernel) (by decide +kernel) hd3 ?_
    ((try (conv => whnf)); repeat (first | (refine cndT rfl ?_; (try (conv => whnf))) | (refine cndF rfl ?_; (try (conv => whnf)))))
    ((try (conv => whnf)); repeat (first | (refine cndT rfl ?_; (try (conv => whnf))) | (refine cndF rfl ?_; (try (conv => whnf)))))
    left
    refine ⟨_, SqL.of e3, ?_⟩
    ((try (conv => whnf)); repeat (first | (refine cndT rfl ?_; (try (conv => whnf))) | (refine cndF rfl ?_; (try (conv => whnf)))))
    refine isXv ek he hd3 ?_
    ((try (conv => whnf)); repeat (first | (refine cndT rfl ?_; (try (conv => whnf))) | (refine cndF rfl ?_; (try (conv => whnf)))))
    refine ixLk e3 (v := .ref T) rfl ?_
    exact k T H3 (fun b o z => b3.at (s2 _ _ (s1 _ _ z)) (fun y => by rw [y, nl] at z; cases z)) hT3
  | taken v =>
    have he : (("Taken" : Str), (["found"] : List Str)) ∈ errsL := by decide +kernel
    refine cutN ?_
    ((try (conv => whnf)); repeat (first | (refine cndT rfl ?_; (try (conv => whnf))) | (refine cndF rfl ?_; (try (conv => whnf)))))
    refine isX (c := "Taken") ek he (t := "NoName") (b := false) (by decide +kernel) (by decide +kernel) hd1 ?_
    ((try (conv => whnf)); repeat (first | (refine cndT rfl ?_; (try (conv => whnf))) | (refine cndF rfl ?_; (try (conv => whnf)))))
    refine cutN ?_
    ((try (conv => whnf)); repeat (first | (refine cndT rfl ?_; (try (conv => whnf))) | (refine cndF rfl ?_; (try (conv => whnf)))))
    refine isX (c := "Taken") ek he (t := "NoWeight") (b := false) (by decide +kernel) (by decide +kernel) hd1 ?_
    ((try (conv => whnf)); repeat (first | (refine cndT rfl ?_; (try (conv => whnf))) | (refine cndF rfl ?_; (try (conv => whnf)))))
    refine cutN ?_
    ((try (conv => whnf)); repeat (first | (refine cndT rfl ?_; (try (conv => whnf))) | (refine cndF rfl ?_; (try (conv => whnf)))))
    refine isX (c := "Taken") ek he (t := "NoStrength") (b := false) (by decide +kernel) (by decide +kernel) hd1 ?_
    ((try (conv => whnf)); repeat (first | (refine cndT rfl ?_; (try (conv => whnf))) | (refine cndF rfl ?_; (try (conv => whnf)))))
    refine cutN ?_
    ((try (conv => whnf)); repeat (first | (refine cndT rfl ?_; (try (conv => whnf))) | (refine cndF rfl ?_; (try (conv => whnf)))))
    refine isX (c := "Taken") ek he (t := "NoPlace") (b := false) (by decide +kernel) (by decide +kernel) hd1 ?_
    ((try (conv => whnf)); repeat (first | (refine cndT rfl ?_; (try (conv => whnf))) | (refine cndF rfl ?_; (try (conv => whnf)))))
    refine cutN ?_
    ((try (conv => whnf)); repeat (first | (refine cndT rfl ?_; (try (conv => whnf))) | (refine cndF rfl ?_; (try (conv => whnf)))))
    refine isX (c := "Taken") ek he (t := "NoTie") (b := false) (by decide +kernel) (by decide +kernel) hd1 ?_
    ((try (conv => whnf)); repeat (first | (refine cndT rfl ?_; (try (conv => whnf))) | (refine cndF rfl ?_; (try (conv => whnf)))))
    refine cutN ?_
    ((try (conv => whnf)); repeat (first | (refine cndT rfl ?_; (try (conv => whnf))) | (refine cndF rfl ?_; (try (conv => whnf)))))
    refine isX (c := "Taken") ek he (t := "Same") (b := false) (by decide +kernel) (by decide +kernel) hd1 ?_
    ((try (conv => whnf)); repeat (first | (refine cndT rfl ?_; (try (conv => whnf))) | (refine cndF rfl ?_; (try (conv => whnf)))))
    refine cutN ?_
    ((try (conv => whnf)); repeat (first | (refine cndT rfl ?_; (try (conv => whnf))) | (refine cndF rfl ?_; (try (conv => whnf)))))
    refine isX (c := "Taken") ek he (t := "Taken") (b := true) (by decide +kernel) (by decide +kernel) hd1 ?_
    ((try (conv => whnf)); repeat (first | (refine cndT rfl ?_; (try (conv => whnf))) | (refine cndF rfl ?_; (try (conv => whnf)))))
    refine ⟨.inl ⟨rfl, _, SqL.of e1⟩, ?_⟩
    ((try (conv => whnf)); repeat (first | (refine cndT rfl ?_; (try (conv => whnf))) | (refine cndF rfl ?_; (try (conv => whnf)))))
    right
    ((try (conv => whnf)); repeat (first | (refine cndT rfl ?_; (try (conv => whnf))) | (refine cndF rfl ?_; (try (conv => whnf)))))
    refine fdX (c := "Taken") (v := v) ek he (n := "found") (by decide +kernel) hd1 (by rfl) ?_
    ((try (conv => whnf)); repeat (first | (refine cndT rfl ?_; (try (conv => whnf))) | (refine cndF rfl ?_; (try (conv => whnf)))))
    refine ⟨by show 2 ≤ sizeLine; decide, ?_⟩
    (intro T nT; generalize hG : _root_.L2.upd _ T _ = H2; have s2 := sameOf nT hG; have e2 := atOf hG; clear hG; ((try (conv => whnf)); repeat (first | (refine cndT rfl ?_; (try (conv => whnf))) | (refine cndF rfl ?_; (try (conv => whnf))))))
    refine ⟨l, _, _, rfl, rfl, s2 _ _ e1, by decide, ?_⟩
    (generalize hG : _root_.L2.upd _ l _ = H3; have b3 := butOf hG; have e3 := atOf hG; clear hG; ((try (conv => whnf)); repeat (first | (refine cndT rfl ?_; (try (conv => whnf))) | (refine cndF rfl ?_; (try (conv => whnf))))))
    have hd3 := b3.at (s2 _ _ hd1) (fun z => by rw [z, e1] at hd1; cases hd1)
    have hT3 := b3.at e2 (fun z => by rw [z, s2 _ _ e1] at e2; cases e2)
    refine cutN ?_
    ((try (conv => whnf)); repeat (first | (refine cndT rfl ?_; (try (conv => whnf))) | (refine cndF rfl ?_; (try (conv => whnf)))))
    refine isX (c := "Taken") ek he (t := "Tied") (b := false) (by decide +kernel) (by decide +kernel) hd3 ?_
    ((try (conv => whnf)); repeat (first | (refine cndT rfl ?_; (try (conv => whnf))) | (refine cndF rfl ?_; (try (conv => whnf)))))
    refine cutN ?_
    ((try (conv => whnf)); repeat (first | (refine cndT rfl ?_; (try (conv => whnf))) | (refine cndF rfl ?_; (try (conv => whnf)))))
    refine isX (c := "Taken") ek he (t := "TooMany") (b := false) (by decide +kernel) (by decide +kernel) hd3 ?_
    ((try (conv => whnf)); repeat (first | (refine cndT rfl ?_; (try (conv => whnf))) | (refine cndF rfl ?_; (try (conv => whnf)))))
    refine cutN ?_
    ((try (conv => whnf)); repeat (first | (refine cndT rfl ?_; (try (conv => whnf))) | (refine cndF rfl ?_; (try (conv => whnf)))))
    refine isX (c := "Taken") ek he (t := "Beyond") (b := false) (by decide +kernel) (by decide +kernel) hd3 ?_
    ((try (conv => whnf)); repeat (first | (refine cndT rfl ?_; (try (conv => whnf))) | (refine cndF rfl ?_; (try (conv => whnf)))))
    ((try (conv => whnf)); repeat (first | (refine cndT rfl ?_; (try (conv => whnf))) | (refine cndF rfl ?_; (try (conv => whnf)))))
    left
    refine ⟨_, SqL.of e3, ?_⟩
    ((try (conv => whnf)); repeat (first | (refine cndT rfl ?_; (try (conv => whnf))) | (refine cndF rfl ?_; (try (conv => whnf)))))
    refine isXv ek he hd3 ?_
    ((try (conv => whnf)); repeat (first | (refine cndT rfl ?_; (try (conv => whnf))) | (refine cndF rfl ?_; (try (conv => whnf)))))
    refine ixLk e3 (v := .ref T) rfl ?_
    exact k T H3 (fun b o z => b3.at (s2 _ _ (s1 _ _ z)) (fun y => by rw [y, nl] at z; cases z)) hT3
  | tied v w =>
    have he : (("Tied" : Str), (["one", "other"] : List Str)) ∈ errsL := by decide +kernel
    refine cutN ?_
    ((try (conv => whnf)); repeat (first | (refine cndT rfl ?_; (try (conv => whnf))) | (refine cndF rfl ?_; (try (conv => whnf)))))
    refine isX (c := "Tied") ek he (t := "NoName") (b := false) (by decide +kernel) (by decide +kernel) hd1 ?_
    ((try (conv => whnf)); repeat (first | (refine cndT rfl ?_; (try (conv => whnf))) | (refine cndF rfl ?_; (try (conv => whnf)))))
    refine cutN ?_
    ((try (conv => whnf)); repeat (first | (refine cndT rfl ?_; (try (conv => whnf))) | (refine cndF rfl ?_; (try (conv => whnf)))))
    refine isX (c := "Tied") ek he (t := "NoWeight") (b := false) (by decide +kernel) (by decide +kernel) hd1 ?_
    ((try (conv => whnf)); repeat (first | (refine cndT rfl ?_; (try (conv => whnf))) | (refine cndF rfl ?_; (try (conv => whnf)))))
    refine cutN ?_
    ((try (conv => whnf)); repeat (first | (refine cndT rfl ?_; (try (conv => whnf))) | (refine cndF rfl ?_; (try (conv => whnf)))))
    refine isX (c := "Tied") ek he (t := "NoStrength") (b := false) (by decide +kernel) (by decide +kernel) hd1 ?_
    ((try (conv => whnf)); repeat (first | (refine cndT rfl ?_; (try (conv => whnf))) | (refine cndF rfl ?_; (try (conv => whnf)))))
    refine cutN ?_
    ((try (conv => whnf)); repeat (first | (refine cndT rfl ?_; (try (conv => whnf))) | (refine cndF rfl ?_; (try (conv => whnf)))))
    refine isX (c := "Tied") ek he (t := "NoPlace") (b := false) (by decide +kernel) (by decide +kernel) hd1 ?_
    ((try (conv => whnf)); repeat (first | (refine cndT rfl ?_; (try (conv => whnf))) | (refine cndF rfl ?_; (try (conv => whnf)))))
    refine cutN ?_
    ((try (conv => whnf)); repeat (first | (refine cndT rfl ?_; (try (conv => whnf))) | (refine cndF rfl ?_; (try (conv => whnf)))))
    refine isX (c := "Tied") ek he (t := "NoTie") (b := false) (by decide +kernel) (by decide +kernel) hd1 ?_
    ((try (conv => whnf)); repeat (first | (refine cndT rfl ?_; (try (conv => whnf))) | (refine cndF rfl ?_; (try (conv => whnf)))))
    refine cutN ?_
    ((try (conv => whnf)); repeat (first | (refine cndT rfl ?_; (try (conv => whnf))) | (refine cndF rfl ?_; (try (conv => whnf)))))
    refine isX (c := "Tied") ek he (t := "Same") (b := false) (by decide +kernel) (by decide +kernel) hd1 ?_
    ((try (conv => whnf)); repeat (first | (refine cndT rfl ?_; (try (conv => whnf))) | (refine cndF rfl ?_; (try (conv => whnf)))))
    refine cutN ?_
    ((try (conv => whnf)); repeat (first | (refine cndT rfl ?_; (try (conv => whnf))) | (refine cndF rfl ?_; (try (conv => whnf)))))
    refine isX (c := "Tied") ek he (t := "Taken") (b := false) (by decide +kernel) (by decide +kernel) hd1 ?_
    ((try (conv => whnf)); repeat (first | (refine cndT rfl ?_; (try (conv => whnf))) | (refine cndF rfl ?_; (try (conv => whnf)))))
    refine cutN ?_
    ((try (conv => whnf)); repeat (first | (refine cndT rfl ?_; (try (conv => whnf))) | (refine cndF rfl ?_; (try (conv => whnf)))))
    refine isX (c := "Tied") ek he (t := "Tied") (b := true) (by decide +kernel) (by decide +kernel) hd1 ?_
    ((try (conv => whnf)); repeat (first | (refine cndT rfl ?_; (try (conv => whnf))) | (refine cndF rfl ?_; (try (conv => whnf)))))
    refine ⟨.inl ⟨rfl, _, SqL.of e1⟩, ?_⟩
    ((try (conv => whnf)); repeat (first | (refine cndT rfl ?_; (try (conv => whnf))) | (refine cndF rfl ?_; (try (conv => whnf)))))
    right
    ((try (conv => whnf)); repeat (first | (refine cndT rfl ?_; (try (conv => whnf))) | (refine cndF rfl ?_; (try (conv => whnf)))))
    refine fdX (c := "Tied") (v := v) ek he (n := "one") (by decide +kernel) hd1 (by rfl) ?_
    ((try (conv => whnf)); repeat (first | (refine cndT rfl ?_; (try (conv => whnf))) | (refine cndF rfl ?_; (try (conv => whnf)))))
    right
    ((try (conv => whnf)); repeat (first | (refine cndT rfl ?_; (try (conv => whnf))) | (refine cndF rfl ?_; (try (conv => whnf)))))
    refine fdX (c := "Tied") (v := w) ek he (n := "other") (by decide +kernel) hd1 (by rfl) ?_
    ((try (conv => whnf)); repeat (first | (refine cndT rfl ?_; (try (conv => whnf))) | (refine cndF rfl ?_; (try (conv => whnf)))))
    refine ⟨by show 3 ≤ sizeLine; decide, ?_⟩
    (intro T nT; generalize hG : _root_.L2.upd _ T _ = H2; have s2 := sameOf nT hG; have e2 := atOf hG; clear hG; ((try (conv => whnf)); repeat (first | (refine cndT rfl ?_; (try (conv => whnf))) | (refine cndF rfl ?_; (try (conv => whnf))))))
    refine ⟨l, _, _, rfl, rfl, s2 _ _ e1, by decide, ?_⟩
    (generalize hG : _root_.L2.upd _ l _ = H3; have b3 := butOf hG; have e3 := atOf hG; clear hG; ((try (conv => whnf)); repeat (first | (refine cndT rfl ?_; (try (conv => whnf))) | (refine cndF rfl ?_; (try (conv => whnf))))))
    have hd3 := b3.at (s2 _ _ hd1) (fun z => by rw [z, e1] at hd1; cases hd1)
    have hT3 := b3.at e2 (fun z => by rw [z, s2 _ _ e1] at e2; cases e2)
    refine cutN ?_
    ((try (conv => whnf)); repeat (first | (refine cndT rfl ?_; (try (conv => whnf))) | (refine cndF rfl ?_; (try (conv => whnf)))))
    refine isX (c := "Tied") ek he (t := "TooMany") (b := false) (by decide +kernel) (by decide +kernel) hd3 ?_
    ((try (conv => whnf)); repeat (first | (refine cndT rfl ?_; (try (conv => whnf))) | (refine cndF rfl ?_; (try (conv => whnf)))))
    refine cutN ?_
    ((try (conv => whnf)); repeat (first | (refine cndT rfl ?_; (try (conv => whnf))) | (refine cndF rfl ?_; (try (conv => whnf)))))
    refine isX (c := "Tied") ek he (t := "Beyond") (b := false) (by decide +kernel) (by decide +kernel) hd3 ?_
    ((try (conv => whnf)); repeat (first | (refine cndT rfl ?_; (try (conv => whnf))) | (refine cndF rfl ?_; (try (conv => whnf)))))
    ((try (conv => whnf)); repeat (first | (refine cndT rfl ?_; (try (conv => whnf))) | (refine cndF rfl ?_; (try (conv => whnf)))))
    left
    refine ⟨_, SqL.of e3, ?_⟩
    ((try (conv => whnf)); repeat (first | (refine cndT rfl ?_; (try (conv => whnf))) | (refine cndF rfl ?_; (try (conv => whnf)))))
    refine isXv ek he hd3 ?_
    ((try (conv => whnf)); repeat (first | (refine cndT rfl ?_; (try (conv => whnf))) | (refine cndF rfl ?_; (try (conv => whnf)))))
    refine ixLk e3 (v := .ref T) rfl ?_
    exact k T H3 (fun b o z => b3.at (s2 _ _ (s1 _ _ z)) (fun y => by rw [y, nl] at z; cases z)) hT3
  | many v =>
    have he : (("TooMany" : Str), (["many"] : List Str)) ∈ errsL := by decide +kernel
    refine cutN ?_
    ((try (conv => whnf)); repeat (first | (refine cndT rfl ?_; (try (conv => whnf))) | (refine cndF rfl ?_; (try (conv => whnf)))))
    refine isX (c := "TooMany") ek he (t := "NoName") (b := false) (by decide +kernel) (by decide +kernel) hd1 ?_
    ((try (conv => whnf)); repeat (first | (refine cndT rfl ?_; (try (conv => whnf))) | (refine cndF rfl ?_; (try (conv => whnf)))))
    refine cutN ?_
    ((try (conv => whnf)); repeat (first | (refine cndT rfl ?_; (try (conv => whnf))) | (refine cndF rfl ?_; (try (conv => whnf)))))
    refine isX (c := "TooMany") ek he (t := "NoWeight") (b := false) (by decide +kernel) (by decide +kernel) hd1 ?_
    ((try (conv => whnf)); repeat (first | (refine cndT rfl ?_; (try (conv => whnf))) | (refine cndF rfl ?_; (try (conv => whnf)))))
    refine cutN ?_
    ((try (conv => whnf)); repeat (first | (refine cndT rfl ?_; (try (conv => whnf))) | (refine cndF rfl ?_; (try (conv => whnf)))))
    refine isX (c := "TooMany") ek he (t := "NoStrength") (b := false) (by decide +kernel) (by decide +kernel) hd1 ?_
    ((try (conv => whnf)); repeat (first | (refine cndT rfl ?_; (try (conv => whnf))) | (refine cndF rfl ?_; (try (conv => whnf)))))
    refine cutN ?_
    ((try (conv => whnf)); repeat (first | (refine cndT rfl ?_; (try (conv => whnf))) | (refine cndF rfl ?_; (try (conv => whnf)))))
    refine isX (c := "TooMany") ek he (t := "NoPlace") (b := false) (by decide +kernel) (by decide +kernel) hd1 ?_
    ((try (conv => whnf)); repeat (first | (refine cndT rfl ?_; (try (conv => whnf))) | (refine cndF rfl ?_; (try (conv => whnf)))))
    refine cutN ?_
    ((try (conv => whnf)); repeat (first | (refine cndT rfl ?_; (try (conv => whnf))) | (refine cndF rfl ?_; (try (conv => whnf)))))
    refine isX (c := "TooMany") ek he (t := "NoTie") (b := false) (by decide +kernel) (by decide +kernel) hd1 ?_
    ((try (conv => whnf)); repeat (first | (refine cndT rfl ?_; (try (conv => whnf))) | (refine cndF rfl ?_; (try (conv => whnf)))))
    refine cutN ?_
    ((try (conv => whnf)); repeat (first | (refine cndT rfl ?_; (try (conv => whnf))) | (refine cndF rfl ?_; (try (conv => whnf)))))
    refine isX (c := "TooMany") ek he (t := "Same") (b := false) (by decide +kernel) (by decide +kernel) hd1 ?_
    ((try (conv => whnf)); repeat (first | (refine cndT rfl ?_; (try (conv => whnf))) | (refine cndF rfl ?_; (try (conv => whnf)))))
    refine cutN ?_
    ((try (conv => whnf)); repeat (first | (refine cndT rfl ?_; (try (conv => whnf))) | (refine cndF rfl ?_; (try (conv => whnf)))))
    refine isX (c := "TooMany") ek he (t := "Taken") (b := false) (by decide +kernel) (by decide +kernel) hd1 ?_
    ((try (conv => whnf)); repeat (first | (refine cndT rfl ?_; (try (conv => whnf))) | (refine cndF rfl ?_; (try (conv => whnf)))))
    refine cutN ?_
    ((try (conv => whnf)); repeat (first | (refine cndT rfl ?_; (try (conv => whnf))) | (refine cndF rfl ?_; (try (conv => whnf)))))
    refine isX (c := "TooMany") ek he (t := "Tied") (b := false) (by decide +kernel) (by decide +kernel) hd1 ?_
    ((try (conv => whnf)); repeat (first | (refine cndT rfl ?_; (try (conv => whnf))) | (refine cndF rfl ?_; (try (conv => whnf)))))
    refine cutN ?_
    ((try (conv => whnf)); repeat (first | (refine cndT rfl ?_; (try (conv => whnf))) | (refine cndF rfl ?_; (try (conv => whnf)))))
    refine isX (c := "TooMany") ek he (t := "TooMany") (b := true) (by decide +kernel) (by decide +kernel) hd1 ?_
    ((try (conv => whnf)); repeat (first | (refine cndT rfl ?_; (try (conv => whnf))) | (refine cndF rfl ?_; (try (conv => whnf)))))
    refine ⟨.inl ⟨rfl, _, SqL.of e1⟩, ?_⟩
    ((try (conv => whnf)); repeat (first | (refine cndT rfl ?_; (try (conv => whnf))) | (refine cndF rfl ?_; (try (conv => whnf)))))
    right
    ((try (conv => whnf)); repeat (first | (refine cndT rfl ?_; (try (conv => whnf))) | (refine cndF rfl ?_; (try (conv => whnf)))))
    refine fdX (c := "TooMany") (v := v) ek he (n := "many") (by decide +kernel) hd1 (by rfl) ?_
    ((try (conv => whnf)); repeat (first | (refine cndT rfl ?_; (try (conv => whnf))) | (refine cndF rfl ?_; (try (conv => whnf)))))
    refine ⟨by show 2 ≤ sizeLine; decide, ?_⟩
    (intro T nT; generalize hG : _root_.L2.upd _ T _ = H2; have s2 := sameOf nT hG; have e2 := atOf hG; clear hG; ((try (conv => whnf)); repeat (first | (refine cndT rfl ?_; (try (conv => whnf))) | (refine cndF rfl ?_; (try (conv => whnf))))))
    refine ⟨l, _, _, rfl, rfl, s2 _ _ e1, by decide, ?_⟩
    (generalize hG : _root_.L2.upd _ l _ = H3; have b3 := butOf hG; have e3 := atOf hG; clear hG; ((try (conv => whnf)); repeat (first | (refine cndT rfl ?_; (try (conv => whnf))) | (refine cndF rfl ?_; (try (conv => whnf))))))
    have hd3 := b3.at (s2 _ _ hd1) (fun z => by rw [z, e1] at hd1; cases hd1)
    have hT3 := b3.at e2 (fun z => by rw [z, s2 _ _ e1] at e2; cases e2)
    refine cutN ?_
    ((try (conv => whnf)); repeat (first | (refine cndT rfl ?_; (try (conv => whnf))) | (refine cndF rfl ?_; (try (conv => whnf)))))
    refine isX (c := "TooMany") ek he (t := "Beyond") (b := false) (by decide +kernel) (by decide +kernel) hd3 ?_
    ((try (conv => whnf)); repeat (first | (refine cndT rfl ?_; (try (conv => whnf))) | (refine cndF rfl ?_; (try (conv => whnf)))))
    ((try (conv => whnf)); repeat (first | (refine cndT rfl ?_; (try (conv => whnf))) | (refine cndF rfl ?_; (try (conv => whnf)))))
    left
    refine ⟨_, SqL.of e3, ?_⟩
    ((try (conv => whnf)); repeat (first | (refine cndT rfl ?_; (try (conv => whnf))) | (refine cndF rfl ?_; (try (conv => whnf)))))
    refine isXv ek he hd3 ?_
    ((try (conv => whnf)); repeat (first | (refine cndT rfl ?_; (try (conv => whnf))) | (refine cndF rfl ?_; (try (conv => whnf)))))
    refine ixLk e3 (v := .ref T) rfl ?_
    exact k T H3 (fun b o z => b3.at (s2 _ _ (s1 _ _ z)) (fun y => by rw [y, nl] at z; cases z)) hT3
  | beyond v =>
    have he : (("Beyond" : Str), (["many"] : List Str)) ∈ errsL := by decide +kernel
    refine cutN ?_
    ((try (conv => whnf)); repeat (first | (refine cndT rfl ?_; (try (conv => whnf))) | (refine cndF rfl ?_; (try (conv => whnf)))))
    refine isX (c := "Beyond") ek he (t := "NoName") (b := false) (by decide +kernel) (by decide +kernel) hd1 ?_
    ((try (conv => whnf)); repeat (first | (refine cndT rfl ?_; (try (conv => whnf))) | (refine cndF rfl ?_; (try (conv => whnf)))))
    refine cutN ?_
    ((try (conv => whnf)); repeat (first | (refine cndT rfl ?_; (try (conv => whnf))) | (refine cndF rfl ?_; (try (conv => whnf)))))
    refine isX (c := "Beyond") ek he (t := "NoWeight") (b := false) (by decide +kernel) (by decide +kernel) hd1 ?_
    ((try (conv => whnf)); repeat (first | (refine cndT rfl ?_; (try (conv => whnf))) | (refine cndF rfl ?_; (try (conv => whnf)))))
    refine cutN ?_
    ((try (conv => whnf)); repeat (first | (refine cndT rfl ?_; (try (conv => whnf))) | (refine cndF rfl ?_; (try (conv => whnf)))))
    refine isX (c := "Beyond") ek he (t := "NoStrength") (b := false) (by decide +kernel) (by decide +kernel) hd1 ?_
    ((try (conv => whnf)); repeat (first | (refine cndT rfl ?_; (try (conv => whnf))) | (refine cndF rfl ?_; (try (conv => whnf)))))
    refine cutN ?_
    ((try (conv => whnf)); repeat (first | (refine cndT rfl ?_; (try (conv => whnf))) | (refine cndF rfl ?_; (try (conv => whnf)))))
    refine isX (c := "Beyond") ek he (t := "NoPlace") (b := false) (by decide +kernel) (by decide +kernel) hd1 ?_
    ((try (conv => whnf)); repeat (first | (refine cndT rfl ?_; (try (conv => whnf))) | (refine cndF rfl ?_; (try (conv => whnf)))))
    refine cutN ?_
    ((try (conv => whnf)); repeat (first | (refine cndT rfl ?_; (try (conv => whnf))) | (refine cndF rfl ?_; (try (conv => whnf)))))
    refine isX (c := "Beyond") ek he (t := "NoTie") (b := false) (by decide +kernel) (by decide +kernel) hd1 ?_
    ((try (conv => whnf)); repeat (first | (refine cndT rfl ?_; (try (conv => whnf))) | (refine cndF rfl ?_; (try (conv => whnf)))))
    refine cutN ?_
    ((try (conv => whnf)); repeat (first | (refine cndT rfl ?_; (try (conv => whnf))) | (refine cndF rfl ?_; (try (conv => whnf)))))
    refine isX (c := "Beyond") ek he (t := "Same") (b := false) (by decide +kernel) (by decide +kernel) hd1 ?_
    ((try (conv => whnf)); repeat (first | (refine cndT rfl ?_; (try (conv => whnf))) | (refine cndF rfl ?_; (try (conv => whnf)))))
    refine cutN ?_
    ((try (conv => whnf)); repeat (first | (refine cndT rfl ?_; (try (conv => whnf))) | (refine cndF rfl ?_; (try (conv => whnf)))))
    refine isX (c := "Beyond") ek he (t := "Taken") (b := false) (by decide +kernel) (by decide +kernel) hd1 ?_
    ((try (conv => whnf)); repeat (first | (refine cndT rfl ?_; (try (conv => whnf))) | (refine cndF rfl ?_; (try (conv => whnf)))))
    refine cutN ?_
    ((try (conv => whnf)); repeat (first | (refine cndT rfl ?_; (try (conv => whnf))) | (refine cndF rfl ?_; (try (conv => whnf)))))
    refine isX (c := "Beyond") ek he (t := "Tied") (b := false) (by decide +kernel) (by decide +kernel) hd1 ?_
    ((try (conv => whnf)); repeat (first | (refine cndT rfl ?_; (try (conv => whnf))) | (refine cndF rfl ?_; (try (conv => whnf)))))
    refine cutN ?_
    ((try (conv => whnf)); repeat (first | (refine cndT rfl ?_; (try (conv => whnf))) | (refine cndF rfl ?_; (try (conv => whnf)))))
    refine isX (c := "Beyond") ek he (t := "TooMany") (b := false) (by decide +kernel) (by decide +kernel) hd1 ?_
    ((try (conv => whnf)); repeat (first | (refine cndT rfl ?_; (try (conv => whnf))) | (refine cndF rfl ?_; (try (conv => whnf)))))
    refine cutN ?_
    ((try (conv => whnf)); repeat (first | (refine cndT rfl ?_; (try (conv => whnf))) | (refine cndF rfl ?_; (try (conv => whnf)))))
    refine isX (c := "Beyond") ek he (t := "Beyond") (b := true) (by decide +kernel) (by decide +kernel) hd1 ?_
    ((try (conv => whnf)); repeat (first | (refine cndT rfl ?_; (try (conv => whnf))) | (refine cndF rfl ?_; (try (conv => whnf)))))
    refine ⟨.inl ⟨rfl, _, SqL.of e1⟩, ?_⟩
    ((try (conv => whnf)); repeat (first | (refine cndT rfl ?_; (try (conv => whnf))) | (refine cndF rfl ?_; (try (conv => whnf)))))
    right
    ((try (conv => whnf)); repeat (first | (refine cndT rfl ?_; (try (conv => whnf))) | (refine cndF rfl ?_; (try (conv => whnf)))))
    refine fdX (c := "Beyond") (v := v) ek he (n := "many") (by decide +kernel) hd1 (by rfl) ?_
    ((try (conv => whnf)); repeat (first | (refine cndT rfl ?_; (try (conv => whnf))) | (refine cndF rfl ?_; (try (conv => whnf)))))
    refine ⟨by show 2 ≤ sizeLine; decide, ?_⟩
    (intro T nT; generalize hG : _root_.L2.upd _ T _ = H2; have s2 := sameOf nT hG; have e2 := atOf hG; clear hG; ((try (conv => whnf)); repeat (first | (refine cndT rfl ?_; (try (conv => whnf))) | (refine cndF rfl ?_; (try (conv => whnf))))))
    refine ⟨l, _, _, rfl, rfl, s2 _ _ e1, by decide, ?_⟩
    (generalize hG : _root_.L2.upd _ l _ = H3; have b3 := butOf hG; have e3 := atOf hG; clear hG; ((try (conv => whnf)); repeat (first | (refine cndT rfl ?_; (try (conv => whnf))) | (refine cndF rfl ?_; (try (conv => whnf))))))
    have hd3 := b3.at (s2 _ _ hd1) (fun z => by rw [z, e1] at hd1; cases hd1)
    have hT3 := b3.at e2 (fun z => by rw [z, s2 _ _ e1] at e2; cases e2)
    ((try (conv => whnf)); repeat (first | (refine cndT rfl ?_; (try (conv => whnf))) | (refine cndF rfl ?_; (try (conv => whnf)))))
    left
    refine ⟨_, SqL.of e3, ?_⟩
    ((try (conv => whnf)); repeat (first | (refine cndT rfl ?_; (try (conv => whnf))) | (refine cndF rfl ?_; (try (conv => whnf)))))
    refine isXv ek he hd3 ?_
    ((try (conv => whnf)); repeat (first | (refine cndT rfl ?_; (try (conv => whnf))) | (refine cndF rfl ?_; (try (conv => whnf)))))
    refine ixLk e3 (v := .ref T) rfl ?_
    exact k T H3 (fun b o z => b3.at (s2 _ _ (s1 _ _ z)) (fun y => by rw [y, nl] at z; cases z)) hT3
theorem placeO_w {W : WebS} {b : V} {r : Str × List (Str × V)} (h : placeO W b = some r) : ∃ tv, RefW r tv := by
  unfold placeO at h
  split at h
  · split at h
    · cases h
    · cases h
      exact ⟨_, .place _⟩
  · cases h
    exact ⟨_, .place _⟩
theorem twoO_w {W : WebS} {b c : V} {r : Str × List (Str × V)} (h : twoO W b c = some r) : ∃ tv, RefW r tv := by
  unfold twoO at h
  split at h
  · rename_i h1
    cases h
    exact placeO_w h1
  · split at h
    · rename_i h1
      cases h
      exact placeO_w h1
    · split at h
      · cases h
        exact ⟨_, .same _⟩
      · cases h
theorem needTieO_w {W : WebS} {b c : V} {r : Str × List (Str × V)} (h : needTieO W b c = some r) : ∃ tv, RefW r tv := by
  unfold needTieO at h
  split at h
  · rename_i h1
    cases h
    exact twoO_w h1
  · split at h
    · cases h
      exact ⟨_, .notie _ _⟩
    · cases h
theorem weightO_w {c : V} {r : Str × List (Str × V)} (h : weightO c = some r) : ∃ tv, RefW r tv := by
  unfold weightO at h
  split at h
  · cases h
  · cases h
    exact ⟨_, .weight _⟩
theorem strO_w {c : V} {r : Str × List (Str × V)} (h : strO c = some r) : ∃ tv, RefW r tv := by
  unfold strO at h
  split at h
  · cases h
  · cases h
    exact ⟨_, .strength _⟩
theorem doneO_w {W : WebS} {dv : DeedV} {r : Str × List (Str × V)} (h : doneO W dv = some r) : ∃ tv, RefW r tv := by
  cases dv with
  | put b c =>
    replace h : putO W b c = some r := h
    unfold putO at h
    split at h
    · cases h
      exact ⟨_, .name _⟩
    · split at h
      · rename_i h1
        cases h
        exact weightO_w h1
      · split at h
        · split at h
          · cases h
            exact ⟨_, .taken _⟩
          · split at h
            · cases h
              exact ⟨_, .many _⟩
            · split at h
              · cases h
                exact ⟨_, .beyond _⟩
              · cases h
        · cases h
  | weigh b c =>
    replace h : weighO W b c = some r := h
    unfold weighO at h
    split at h
    · rename_i h1
      cases h
      exact placeO_w h1
    · split at h
      · rename_i h1
        cases h
        exact weightO_w h1
      · split at h
        · split at h
          · cases h
            exact ⟨_, .beyond _⟩
          · cases h
        · cases h
  | drop b => exact placeO_w h
  | tie b c d =>
    replace h : tieO W b c d = some r := h
    unfold tieO at h
    split at h
    · rename_i h1
      cases h
      exact twoO_w h1
    · split at h
      · rename_i h1
        cases h
        exact strO_w h1
      · split at h
        · split at h
          · cases h
            exact ⟨_, .tied _ _⟩
          · split at h
            · cases h
              exact ⟨_, .many _⟩
            · split at h
              · cases h
                exact ⟨_, .beyond _⟩
              · cases h
        · cases h
  | more b c d =>
    replace h : moreO W b c d = some r := h
    unfold moreO at h
    split at h
    · rename_i h1
      cases h
      exact needTieO_w h1
    · split at h
      · split at h
        · cases h
          exact ⟨_, .strength _⟩
        · split at h
          · cases h
            exact ⟨_, .beyond _⟩
          · cases h
      · cases h
        exact ⟨_, .strength _⟩
  | untie b c => exact needTieO_w h
theorem refW_err {r : Str × List (Str × V)} {tv : List V} (h : RefW r tv) : ∃ f, (r.1, f) ∈ errsL := by
  cases h with
  | name v => exact ⟨["found"], show (("NoName" : Str), (["found"] : List Str)) ∈ errsL by decide +kernel⟩
  | weight v => exact ⟨["found"], show (("NoWeight" : Str), (["found"] : List Str)) ∈ errsL by decide +kernel⟩
  | strength v => exact ⟨["found"], show (("NoStrength" : Str), (["found"] : List Str)) ∈ errsL by decide +kernel⟩
  | place v => exact ⟨["found"], show (("NoPlace" : Str), (["found"] : List Str)) ∈ errsL by decide +kernel⟩
  | notie v w => exact ⟨["one", "other"], show (("NoTie" : Str), (["one", "other"] : List Str)) ∈ errsL by decide +kernel⟩
  | same v => exact ⟨["found"], show (("Same" : Str), (["found"] : List Str)) ∈ errsL by decide +kernel⟩
  | taken v => exact ⟨["found"], show (("Taken" : Str), (["found"] : List Str)) ∈ errsL by decide +kernel⟩
  | tied v w => exact ⟨["one", "other"], show (("Tied" : Str), (["one", "other"] : List Str)) ∈ errsL by decide +kernel⟩
  | many v => exact ⟨["many"], show (("TooMany" : Str), (["many"] : List Str)) ∈ errsL by decide +kernel⟩
  | beyond v => exact ⟨["many"], show (("Beyond" : Str), (["many"] : List Str)) ∈ errsL by decide +kernel⟩
theorem pure_l_done {K a b H Q E} (h : P_l_done K a b H Q E) : t_l_done K E { nx := fun _ H' => Q .non H', rt := Q } [some a, some b, none, none] H := by
  unfold P_l_done at h
  obtain ⟨x, p, q, td, W, dv, rfl, ek, hw, rfl, hT, hv, hl, hkl, nd, kb, kg⟩ := h
  obtain ⟨dx, ho⟩ := hw.o
  -- what the catcher wishes
  have catch_ : ∀ {ts : Addr → Value → Option Addr → TS} {Wo : WX} {D : Ends} {σ : L2.St} {r : Str × List (Str × V)} {H1 : Hp}, doneO W dv = some r → Same H H1 → (∀ a d H2 tv, Same H H2 → RefW r tv → H2 d = some (.xd r.2) → ts a (.ref (He.ga K r.1)) (some d) { nx := fun σ' H' => D.nx (σ'.set 2 none) H', rt := D.rt, bk := fun σ' H' => D.bk (σ'.set 2 none) H', ct := fun σ' H' => D.ct (σ'.set 2 none) H' } (σ.set 2 (some (.ref a))) H2) →
      Rz K (eW (wAs K (.ref (He.ga K "CutError")) 2 ts Wo D) σ) H1 r := by
    intro ts Wo D σ r H1 hr s1 hts d H2 nd s2 e2
    obtain ⟨tv, w⟩ := doneO_w hr
    obtain ⟨f, hf⟩ := refW_err w
    exact ⟨true, ek.exm _ hf, fun _ a na => hts a d H2 tv (s1.trans s2) w e2, fun z => nomatch z⟩
  have su : ∀ (a d : Addr) (H2 : Hp) (tv : List V) (r : Str × List (Str × V)) (D : Ends), doneO W dv = some r → Same H H2 → RefW r tv → H2 d = some (.xd r.2) → D.rt = Q → tRet (tCallE (spE_l_named K a (.ref (He.ga K r.1)) (some d)) (tCons (tV 2) tNil)) D [some (.ref x), some (.ref td), some (.ref a), none] H2 := by
    intro a d H2 tv r D hr s2 w e2 hD
    ((try (conv => whnf)); repeat (first | (refine cndT rfl ?_; (try (conv => whnf))) | (refine cndF rfl ?_; (try (conv => whnf)))))
    rw [hD]
    exact ⟨r, tv, d, rfl, ek, w, rfl, rfl, e2, fun T H3 s3 e3 => kb r tv T H3 hr w (s2.trans s3) e3⟩
  cases dv with
  | put b c =>
    obtain ⟨⟨tb, htb⟩, hzb⟩ := hv b (by simp [deedT])
    obtain ⟨⟨tc, htc⟩, hzc⟩ := hv c (by simp [deedT])
    ((try (conv => whnf)); repeat (first | (refine cndT rfl ?_; (try (conv => whnf))) | (refine cndF rfl ?_; (try (conv => whnf)))))
    refine ixTk hT (v := .str "put") rfl ?_
    ((try (conv => whnf)); repeat (first | (refine cndT rfl ?_; (try (conv => whnf))) | (refine cndF rfl ?_; (try (conv => whnf)))))
    refine ⟨x, dx, _, rfl, ho, webF_n (by decide +kernel) (by decide +kernel), ?_⟩
    ((try (conv => whnf)); repeat (first | (refine cndT rfl ?_; (try (conv => whnf))) | (refine cndF rfl ?_; (try (conv => whnf)))))
    refine ixTk hT (v := b) rfl ?_
    refine ixTk hT (v := c) rfl ?_
    ((try (conv => whnf)); repeat (first | (refine cndT rfl ?_; (try (conv => whnf))) | (refine cndF rfl ?_; (try (conv => whnf)))))
    refine ⟨x, p, q, W, tb, tc, rfl, ek, hw, htb, htc, hzb, hl, fun r H1 s1 hr => catch_ hr s1 fun a d H2 tv s2 w e2 => su a d H2 tv r _ hr s2 w e2 rfl, fun n w eb ec h0 H' kx e => ?_⟩
    subst eb ec
    ((try (conv => whnf)); repeat (first | (refine cndT rfl ?_; (try (conv => whnf))) | (refine cndF rfl ?_; (try (conv => whnf)))))
    refine ⟨rfl, ?_⟩
    ((try (conv => whnf)); repeat (first | (refine cndT rfl ?_; (try (conv => whnf))) | (refine cndF rfl ?_; (try (conv => whnf)))))
    exact kg H' h0 (kx.more fun b hb => by simp at hb; simp [hb]) (hw.setH kx e)
  | weigh b c =>
    obtain ⟨⟨tb, htb⟩, hzb⟩ := hv b (by simp [deedT])
    obtain ⟨⟨tc, htc⟩, hzc⟩ := hv c (by simp [deedT])
    ((try (conv => whnf)); repeat (first | (refine cndT rfl ?_; (try (conv => whnf))) | (refine cndF rfl ?_; (try (conv => whnf)))))
    refine ixTk hT (v := .str "weigh") rfl ?_
    ((try (conv => whnf)); repeat (first | (refine cndT rfl ?_; (try (conv => whnf))) | (refine cndF rfl ?_; (try (conv => whnf)))))
    refine ixTk hT (v := .str "weigh") rfl ?_
    ((try (conv => whnf)); repeat (first | (refine cndT rfl ?_; (try (conv => whnf))) | (refine cndF rfl ?_; (try (conv => whnf)))))
    refine ⟨x, dx, _, rfl, ho, webF_n (by decide +kernel) (by decide +kernel), ?_⟩
    ((try (conv => whnf)); repeat (first | (refine cndT rfl ?_; (try (conv => whnf))) | (refine cndF rfl ?_; (try (conv => whnf)))))
    refine ixTk hT (v := b) rfl ?_
    refine ixTk hT (v := c) rfl ?_
    ((try (conv => whnf)); repeat (first | (refine cndT rfl ?_; (try (conv => whnf))) | (refine cndF rfl ?_; (try (conv => whnf)))))
    refine ⟨x, p, q, W, tb, tc, rfl, ek, hw, htb, htc, hl, fun r H1 s1 hr => catch_ hr s1 fun a d H2 tv s2 w e2 => su a d H2 tv r _ hr s2 w e2 rfl, fun n w eb ec h0 H' kx e => ?_⟩
    subst eb ec
    ((try (conv => whnf)); repeat (first | (refine cndT rfl ?_; (try (conv => whnf))) | (refine cndF rfl ?_; (try (conv => whnf)))))
    refine ⟨rfl, ?_⟩
    ((try (conv => whnf)); repeat (first | (refine cndT rfl ?_; (try (conv => whnf))) | (refine cndF rfl ?_; (try (conv => whnf)))))
    exact kg H' h0 (kx.more fun b hb => by simp at hb; simp [hb]) (hw.setH kx e)
  | drop b =>
    obtain ⟨⟨tb, htb⟩, hzb⟩ := hv b (by simp [deedT])
    ((try (conv => whnf)); repeat (first | (refine cndT rfl ?_; (try (conv => whnf))) | (refine cndF rfl ?_; (try (conv => whnf)))))
    refine ixTk hT (v := .str "drop") rfl ?_
    ((try (conv => whnf)); repeat (first | (refine cndT rfl ?_; (try (conv => whnf))) | (refine cndF rfl ?_; (try (conv => whnf)))))
    refine ixTk hT (v := .str "drop") rfl ?_
    ((try (conv => whnf)); repeat (first | (refine cndT rfl ?_; (try (conv => whnf))) | (refine cndF rfl ?_; (try (conv => whnf)))))
    refine ixTk hT (v := .str "drop") rfl ?_
    ((try (conv => whnf)); repeat (first | (refine cndT rfl ?_; (try (conv => whnf))) | (refine cndF rfl ?_; (try (conv => whnf)))))
    refine ⟨x, dx, _, rfl, ho, webF_n (by decide +kernel) (by decide +kernel), ?_⟩
    ((try (conv => whnf)); repeat (first | (refine cndT rfl ?_; (try (conv => whnf))) | (refine cndF rfl ?_; (try (conv => whnf)))))
    refine ixTk hT (v := b) rfl ?_
    ((try (conv => whnf)); repeat (first | (refine cndT rfl ?_; (try (conv => whnf))) | (refine cndF rfl ?_; (try (conv => whnf)))))
    refine ⟨x, p, q, W, tb, rfl, ek, hw, htb, nd, hkl, fun r hr => catch_ hr (Same.refl _) fun a d H2 tv s2 w e2 => su a d H2 tv r _ hr s2 w e2 rfl, fun n eb hn H' kx e1 e2 => ?_⟩
    subst eb
    ((try (conv => whnf)); repeat (first | (refine cndT rfl ?_; (try (conv => whnf))) | (refine cndF rfl ?_; (try (conv => whnf)))))
    refine ⟨rfl, ?_⟩
    ((try (conv => whnf)); repeat (first | (refine cndT rfl ?_; (try (conv => whnf))) | (refine cndF rfl ?_; (try (conv => whnf)))))
    exact kg H' (placeO_str hn) kx (hw.setB kx e1 e2)
  | tie b c d =>
    obtain ⟨⟨tb, htb⟩, hzb⟩ := hv b (by simp [deedT])
    obtain ⟨⟨tc, htc⟩, hzc⟩ := hv c (by simp [deedT])
    obtain ⟨⟨td1, htd⟩, hzd⟩ := hv d (by simp [deedT])
    ((try (conv => whnf)); repeat (first | (refine cndT rfl ?_; (try (conv => whnf))) | (refine cndF rfl ?_; (try (conv => whnf)))))
    refine ixTk hT (v := .str "tie") rfl ?_
    ((try (conv => whnf)); repeat (first | (refine cndT rfl ?_; (try (conv => whnf))) | (refine cndF rfl ?_; (try (conv => whnf)))))
    refine ixTk hT (v := .str "tie") rfl ?_
    ((try (conv => whnf)); repeat (first | (refine cndT rfl ?_; (try (conv => whnf))) | (refine cndF rfl ?_; (try (conv => whnf)))))
    refine ixTk hT (v := .str "tie") rfl ?_
    ((try (conv => whnf)); repeat (first | (refine cndT rfl ?_; (try (conv => whnf))) | (refine cndF rfl ?_; (try (conv => whnf)))))
    refine ixTk hT (v := .str "tie") rfl ?_
    ((try (conv => whnf)); repeat (first | (refine cndT rfl ?_; (try (conv => whnf))) | (refine cndF rfl ?_; (try (conv => whnf)))))
    refine ⟨x, dx, _, rfl, ho, webF_n (by decide +kernel) (by decide +kernel), ?_⟩
    ((try (conv => whnf)); repeat (first | (refine cndT rfl ?_; (try (conv => whnf))) | (refine cndF rfl ?_; (try (conv => whnf)))))
    refine ixTk hT (v := b) rfl ?_
    refine ixTk hT (v := c) rfl ?_
    refine ixTk hT (v := d) rfl ?_
    ((try (conv => whnf)); repeat (first | (refine cndT rfl ?_; (try (conv => whnf))) | (refine cndF rfl ?_; (try (conv => whnf)))))
    refine ⟨x, p, q, W, tb, tc, td1, rfl, ek, hw, htb, htc, htd, by omega, fun r H1 s1 hr => catch_ hr s1 fun a d H2 tv s2 w e2 => su a d H2 tv r _ hr s2 w e2 rfl, fun n m w eb ec ed h0 H' kx e => ?_⟩
    subst eb ec ed
    ((try (conv => whnf)); repeat (first | (refine cndT rfl ?_; (try (conv => whnf))) | (refine cndF rfl ?_; (try (conv => whnf)))))
    refine ⟨rfl, ?_⟩
    ((try (conv => whnf)); repeat (first | (refine cndT rfl ?_; (try (conv => whnf))) | (refine cndF rfl ?_; (try (conv => whnf)))))
    exact kg H' h0 (kx.more fun b hb => by simp at hb; simp [hb]) (hw.setK kx e)
  | more b c d =>
    obtain ⟨⟨tb, htb⟩, hzb⟩ := hv b (by simp [deedT])
    obtain ⟨⟨tc, htc⟩, hzc⟩ := hv c (by simp [deedT])
    obtain ⟨⟨td1, htd⟩, hzd⟩ := hv d (by simp [deedT])
    ((try (conv => whnf)); repeat (first | (refine cndT rfl ?_; (try (conv => whnf))) | (refine cndF rfl ?_; (try (conv => whnf)))))
    refine ixTk hT (v := .str "more") rfl ?_
    ((try (conv => whnf)); repeat (first | (refine cndT rfl ?_; (try (conv => whnf))) | (refine cndF rfl ?_; (try (conv => whnf)))))
    refine ixTk hT (v := .str "more") rfl ?_
    ((try (conv => whnf)); repeat (first | (refine cndT rfl ?_; (try (conv => whnf))) | (refine cndF rfl ?_; (try (conv => whnf)))))
    refine ixTk hT (v := .str "more") rfl ?_
    ((try (conv => whnf)); repeat (first | (refine cndT rfl ?_; (try (conv => whnf))) | (refine cndF rfl ?_; (try (conv => whnf)))))
    refine ixTk hT (v := .str "more") rfl ?_
    ((try (conv => whnf)); repeat (first | (refine cndT rfl ?_; (try (conv => whnf))) | (refine cndF rfl ?_; (try (conv => whnf)))))
    refine ixTk hT (v := .str "more") rfl ?_
    ((try (conv => whnf)); repeat (first | (refine cndT rfl ?_; (try (conv => whnf))) | (refine cndF rfl ?_; (try (conv => whnf)))))
    refine ⟨x, dx, _, rfl, ho, webF_n (by decide +kernel) (by decide +kernel), ?_⟩
    ((try (conv => whnf)); repeat (first | (refine cndT rfl ?_; (try (conv => whnf))) | (refine cndF rfl ?_; (try (conv => whnf)))))
    refine ixTk hT (v := b) rfl ?_
    refine ixTk hT (v := c) rfl ?_
    refine ixTk hT (v := d) rfl ?_
    ((try (conv => whnf)); repeat (first | (refine cndT rfl ?_; (try (conv => whnf))) | (refine cndF rfl ?_; (try (conv => whnf)))))
    refine ⟨x, p, q, W, tb, tc, td1, rfl, ek, hw, htb, htc, htd, by omega, fun r H1 s1 hr => catch_ hr s1 fun a d H2 tv s2 w e2 => su a d H2 tv r _ hr s2 w e2 rfl, fun n m kk w eb ec ed hk h0 H' kx e => ?_⟩
    subst eb ec ed
    ((try (conv => whnf)); repeat (first | (refine cndT rfl ?_; (try (conv => whnf))) | (refine cndF rfl ?_; (try (conv => whnf)))))
    refine ⟨rfl, ?_⟩
    ((try (conv => whnf)); repeat (first | (refine cndT rfl ?_; (try (conv => whnf))) | (refine cndF rfl ?_; (try (conv => whnf)))))
    exact kg H' h0 (kx.more fun b hb => by simp at hb; simp [hb]) (by unfold newW; dsimp only; rw [hk]; exact hw.setK kx e)
  | untie b c =>
    obtain ⟨⟨tb, htb⟩, hzb⟩ := hv b (by simp [deedT])
    obtain ⟨⟨tc, htc⟩, hzc⟩ := hv c (by simp [deedT])
    ((try (conv => whnf)); repeat (first | (refine cndT rfl ?_; (try (conv => whnf))) | (refine cndF rfl ?_; (try (conv => whnf)))))
    refine ixTk hT (v := .str "untie") rfl ?_
    ((try (conv => whnf)); repeat (first | (refine cndT rfl ?_; (try (conv => whnf))) | (refine cndF rfl ?_; (try (conv => whnf)))))
    refine ixTk hT (v := .str "untie") rfl ?_
    ((try (conv => whnf)); repeat (first | (refine cndT rfl ?_; (try (conv => whnf))) | (refine cndF rfl ?_; (try (conv => whnf)))))
    refine ixTk hT (v := .str "untie") rfl ?_
    ((try (conv => whnf)); repeat (first | (refine cndT rfl ?_; (try (conv => whnf))) | (refine cndF rfl ?_; (try (conv => whnf)))))
    refine ixTk hT (v := .str "untie") rfl ?_
    ((try (conv => whnf)); repeat (first | (refine cndT rfl ?_; (try (conv => whnf))) | (refine cndF rfl ?_; (try (conv => whnf)))))
    refine ixTk hT (v := .str "untie") rfl ?_
    ((try (conv => whnf)); repeat (first | (refine cndT rfl ?_; (try (conv => whnf))) | (refine cndF rfl ?_; (try (conv => whnf)))))
    refine ⟨x, dx, _, rfl, ho, webF_n (by decide +kernel) (by decide +kernel), ?_⟩
    ((try (conv => whnf)); repeat (first | (refine cndT rfl ?_; (try (conv => whnf))) | (refine cndF rfl ?_; (try (conv => whnf)))))
    refine ixTk hT (v := b) rfl ?_
    refine ixTk hT (v := c) rfl ?_
    ((try (conv => whnf)); repeat (first | (refine cndT rfl ?_; (try (conv => whnf))) | (refine cndF rfl ?_; (try (conv => whnf)))))
    refine ⟨x, p, q, W, tb, tc, rfl, ek, hw, htb, htc, fun r H1 s1 hr => catch_ hr s1 fun a d H2 tv s2 w e2 => su a d H2 tv r _ hr s2 w e2 rfl, fun n m kk eb ec hk h0 H' kx e => ?_⟩
    subst eb ec
    ((try (conv => whnf)); repeat (first | (refine cndT rfl ?_; (try (conv => whnf))) | (refine cndF rfl ?_; (try (conv => whnf)))))
    refine ⟨rfl, ?_⟩
    ((try (conv => whnf)); repeat (first | (refine cndT rfl ?_; (try (conv => whnf))) | (refine cndF rfl ?_; (try (conv => whnf)))))
    exact kg H' h0 (kx.more fun b hb => by simp at hb; simp [hb]) (by unfold newW; dsimp only; rw [hk]; exact hw.setK kx e)
theorem pure_l_alike {K a b H Q E} (h : P_l_alike K a b H Q E) : t_l_alike K E { nx := fun _ H' => Q .non H', rt := Q } [some a, some b] H := by
  rcases h with ⟨rfl, rfl, k⟩ | ⟨x, y, vs, v, t, rfl, rfl, hx, hy, ok, hv, k⟩
  · refine neSc rfl ?_
    rw [show (!decide (V.non = V.non)) = false by decide +kernel]
    ((try (conv => whnf)); repeat (first | (refine cndT rfl ?_; (try (conv => whnf))) | (refine cndF rfl ?_; (try (conv => whnf)))))
    refine ⟨rfl, ?_⟩
    rw [show decide (V.non = V.non) = true by decide +kernel]
    ((try (conv => whnf)); repeat (first | (refine cndT rfl ?_; (try (conv => whnf))) | (refine cndF rfl ?_; (try (conv => whnf)))))
    exact k H (Same.refl _)
  · refine neId ⟨x, y, _, rfl, rfl, SqT.of hx, SqT.of hy, ok⟩ ?_
    ((try (conv => whnf)); repeat (first | (refine cndT rfl ?_; (try (conv => whnf))) | (refine cndF rfl ?_; (try (conv => whnf)))))
    refine ⟨rfl, ?_⟩
    rw [show decide (V.ref y = V.non) = false from decide_eq_false (fun z => nomatch z)]
    ((try (conv => whnf)); repeat (first | (refine cndT rfl ?_; (try (conv => whnf))) | (refine cndF rfl ?_; (try (conv => whnf)))))
    refine ixTk hx atI_last ?_
    obtain ⟨bb, hb⟩ : ∃ bb, isO t "bool" = some bb := by
      unfold isO
      have := hv.isL
      exact ⟨_, by rw [this]; rfl⟩
    refine isiN hv hb ?_
    refine ixTk hy atI_last ?_
    refine isiN hv hb ?_
    show Q (.bl (decide (bb = bb))) H
    rw [decide_eq_true rfl]
    exact k H (Same.refl _)

theorem StO.same {H H' s d0 d1 W} (h : StO H s d0 d1 W) (q : Same H H') : StO H' s d0 d1 W := ⟨q _ _ h.s, q _ _ h.hv, q _ _ h.kn⟩
theorem eqP {K : PySem.W.Frag} {H : Hp} {x y : Addr} {a b c d : Str} {Q : VK} (hx : H x = some (.tup [.str a, .str b])) (hy : H y = some (.tup [.str c, .str d])) (ha : PyData.strOk a = true) (hb : PyData.strOk b = true) (hc : PyData.strOk c = true) (hd : PyData.strOk d = true) (q : Q (.bl (decide (a = c ∧ b = d))) H) : rEqO K (.ref x) (.ref y) H Q := by
  refine eqDt (d := .tuple [.str a, .str b]) (e := .tuple [.str c, .str d]) (.tup (SqT.of hx) (.cons (.str _) (.cons (.str _) .nil))) (.tup (SqT.of hy) (.cons (.str _) (.cons (.str _) .nil))) ?_ ?_ ?_ q
  · show ((PyData.strOk a && (PyData.strOk b && true)) && _) = true
    rw [ha, hb]
    rfl
  · show ((PyData.strOk c && (PyData.strOk d && true)) && _) = true
    rw [hc, hd]
    rfl
  · show ((a == c) && ((b == d) && true)) = _
    rw [Bool.and_true, Bool.decide_and]
    rfl
theorem getA_mem {α : Type} [DecidableEq α] {l : List (α × Int)} {i : Nat} {e : α × Int} (he : l[i]? = some e) : (getA l e.1).isSome = true := by
  unfold getA
  cases hf : List.find? (fun p => decide (p.1 = e.1)) l with
  | none => exact absurd (List.find?_eq_none.mp hf e (List.mem_of_getElem? he)) (by simp)
  | some z => rfl
theorem getA_ex {α : Type} [DecidableEq α] {l : List (α × Int)} {k : α} (h : (getA l k).isSome = true) : ∃ (i : Nat) (e : α × Int), l[i]? = some e ∧ e.1 = k := by
  unfold getA at h
  cases hf : List.find? (fun p => decide (p.1 = k)) l with
  | none => rw [hf] at h; cases h
  | some z =>
    obtain ⟨i, hi, ei⟩ := List.getElem_of_mem (List.mem_of_find?_eq_some hf)
    have e := List.find?_some hf
    exact ⟨i, z, by rw [List.getElem?_eq_getElem hi, ei], of_decide_eq_true e⟩
theorem pure_l_tied {K a b c H Q E} (h : P_l_tied K a b c H Q E) : t_l_tied K E { nx := fun _ H' => Q .non H', rt := Q } [some a, some b, some c, none] H := by
  obtain ⟨s, d0, d1, W, n, m, rfl, hs, rfl, rfl, ow, on, om, okw, k1, k2⟩ := h
  right
  ((try (conv => whnf)); repeat (first | (refine cndT rfl ?_; (try (conv => whnf))) | (refine cndF rfl ?_; (try (conv => whnf)))))
  refine ⟨d1, _, hs.kn, trivial, fun od => ?_⟩
  (generalize hG : _root_.L2.upd _ d1 _ = HL; have bL := butOf hG; have eL := atOf hG; clear hG; ((try (conv => whnf)); repeat (first | (refine cndT rfl ?_; (try (conv => whnf))) | (refine cndF rfl ?_; (try (conv => whnf))))))
  have ns : s ≠ d1 := fun e => by have := hs.s; rw [e, hs.kn] at this; cases this
  refine ixLk (bL.at hs.s ns) (v := .ref d1) rfl ?_
  ((try (conv => whnf)); repeat (first | (refine cndT rfl ?_; (try (conv => whnf))) | (refine cndF rfl ?_; (try (conv => whnf)))))
  refine ⟨d1, od, rfl, .inr ⟨_, eL, ?_⟩⟩
  refine forIt walk_keysT (fun i σ H' => Same HL H' ∧ (∀ j e, W.kn[j]? = some e → j < i → e.1 ≠ (n, m) ∧ e.1 ≠ (m, n)) ∧ ∃ v3 : Option V, σ = [some (.ref s), some (.str n), some (.str m), v3]) ⟨Same.refl _, fun j e _ h => absurd h (Nat.not_lt_zero _), _, rfl⟩ ?_ ?_ ?_
  · rintro i σ H' _ ⟨kx, _⟩
    exact kx _ _ eL
  · rintro i y σ H2 H3 hi ⟨kx, hno, v3, rfl⟩ ⟨rfl, k', v', kq, hk', rfl, hkq⟩
    obtain ⟨e, he, e1'⟩ : ∃ e, W.kn[i]? = some e ∧ k' = kP e.1 := by
      unfold emb at hk'
      rw [List.getElem?_map] at hk'
      obtain ⟨e, he, ee⟩ := Option.map_eq_some_iff.mp hk'
      cases ee
      exact ⟨e, he, rfl⟩
    subst e1'
    have hin := getA_mem he
    obtain ⟨ok1, ok2⟩ := okw.2 e (List.mem_of_getElem? he)
    -- a hit
    have hit : ∀ H4, Same H3 H4 → (e.1 = (n, m) ∨ e.1 = (m, n)) → H4 d1 = some (.frz od (.dT (emb kP W.kn))) ∧ Q (.ref kq) (L2.upd H4 d1 (.dT (emb kP W.kn))) := by
      intro H4 s4 hor
      refine ⟨s4 _ _ (kx _ _ eL), ?_⟩
      generalize hG : L2.upd H4 d1 _ = G
      have sG : Same H G := unlock hs.kn bL (kx.trans s4) hG
      have hkn : knotW W n m = some e.1 := by
        unfold knotW
        rcases hor with h | h
        · rw [h] at hin ⊢
          rw [if_pos hin]
        · by_cases c : (getA W.kn (n, m)).isSome = true
          · rw [if_pos c]
            rw [h] at hin ⊢
            have := ow n m c hin
            rw [this]
          · rw [if_neg c]
            rw [h] at hin ⊢
            rw [if_pos hin]
      refine k1 kq e.1.1 e.1.2 G hkn sG ?_
      have nk : kq ≠ d1 := fun z => by rw [z, kx _ _ eL] at hkq; cases hkq
      rw [← hG, upd_ne nk]
      exact s4 _ _ hkq
    ((try (conv => whnf)); repeat (first | (refine cndT rfl ?_; (try (conv => whnf))) | (refine cndF rfl ?_; (try (conv => whnf)))))
    refine ⟨by show 2 ≤ sizeLine; decide, ?_⟩
    (intro t nt; generalize hG : _root_.L2.upd _ t _ = H4; have s4 := sameOf nt hG; have e4 := atOf hG; clear hG; ((try (conv => whnf)); repeat (first | (refine cndT rfl ?_; (try (conv => whnf))) | (refine cndF rfl ?_; (try (conv => whnf))))))
    refine eqP (s4 _ _ hkq) e4 ok1 ok2 on om ?_
    ((try (conv => whnf)); repeat (first | (refine cndT rfl ?_; (try (conv => whnf))) | (refine cndF rfl ?_; (try (conv => whnf)))))
    refine cndB (fun c1 => ?_) (fun c1 => ?_)
    · ((try (conv => whnf)); repeat (first | (refine cndT rfl ?_; (try (conv => whnf))) | (refine cndF rfl ?_; (try (conv => whnf)))))
      have c1 := of_decide_eq_true c1
      exact hit H4 s4 (.inl (Prod.ext c1.1 c1.2))
    · have c1 := of_decide_eq_false c1
      ((try (conv => whnf)); repeat (first | (refine cndT rfl ?_; (try (conv => whnf))) | (refine cndF rfl ?_; (try (conv => whnf)))))
      refine ⟨by show 2 ≤ sizeLine; decide, ?_⟩
      (intro t2 nt2; generalize hG : _root_.L2.upd _ t2 _ = H5; have s5 := sameOf nt2 hG; have e5 := atOf hG; clear hG; ((try (conv => whnf)); repeat (first | (refine cndT rfl ?_; (try (conv => whnf))) | (refine cndF rfl ?_; (try (conv => whnf))))))
      refine eqP (s5 _ _ (s4 _ _ hkq)) e5 ok1 ok2 om on ?_
      ((try (conv => whnf)); repeat (first | (refine cndT rfl ?_; (try (conv => whnf))) | (refine cndF rfl ?_; (try (conv => whnf)))))
      refine cndB (fun c2 => ?_) (fun c2 => ?_)
      · ((try (conv => whnf)); repeat (first | (refine cndT rfl ?_; (try (conv => whnf))) | (refine cndF rfl ?_; (try (conv => whnf)))))
        have c2 := of_decide_eq_true c2
        exact hit H5 (s4.trans s5) (.inr (Prod.ext c2.1 c2.2))
      · have c2 := of_decide_eq_false c2
        ((try (conv => whnf)); repeat (first | (refine cndT rfl ?_; (try (conv => whnf))) | (refine cndF rfl ?_; (try (conv => whnf)))))
        refine ⟨kx.trans (s4.trans s5), fun j e' he' hj => ?_, _, rfl⟩
        rcases Nat.lt_or_ge j i with h | h
        · exact hno j e' he' h
        · have : j = i := by omega
          rw [this, he] at he'
          cases he'
          exact ⟨fun z => c1 ⟨congrArg Prod.fst z, congrArg Prod.snd z⟩, fun z => c2 ⟨congrArg Prod.fst z, congrArg Prod.snd z⟩⟩
  · rintro σ H2 ⟨kx, hno, v3, rfl⟩
    refine ⟨kx _ _ eL, ?_⟩
    generalize hG : L2.upd _ d1 _ = G
    have sG : Same H G := unlock hs.kn bL kx hG
    ((try (conv => whnf)); repeat (first | (refine cndT rfl ?_; (try (conv => whnf))) | (refine cndF rfl ?_; (try (conv => whnf)))))
    refine k2 G ?_ sG
    have no : ∀ z : Str × Str, (z = (n, m) ∨ z = (m, n)) → ¬ (getA W.kn z).isSome = true := fun z hz hh => by
      obtain ⟨i, e, he, ee⟩ := getA_ex hh
      have hi : i < W.kn.length := by
        rcases Nat.lt_or_ge i W.kn.length with h | h
        · exact h
        · rw [List.getElem?_eq_none h] at he; cases he
      obtain ⟨a1, a2⟩ := hno i e he (by rw [emb_len]; exact hi)
      rcases hz with z1 | z1
      · exact a1 (ee.trans z1)
      · exact a2 (ee.trans z1)
    unfold knotW
    rw [if_neg (no _ (.inl rfl)), if_neg (no _ (.inr rfl))]
theorem inT2 {K : PySem.W.Frag} {H : Hp} {b : Addr} {n u v : Str} {Q : VK} (h : H b = some (.tup [.str u, .str v])) (q : Q (.bl (decide (n = u) || decide (n = v))) H) : rIn K false (.str n) (.ref b) H Q ∨ ∃ a o, V.ref b = .ref a ∧ DGet H a (.str n) o ∧ Q (.bl o.isSome) H := by
  refine .inl ⟨b, _, rfl, .inr (SqT.of h), rfl, rfl, ?_⟩
  have e : inV (.str n) [.str u, .str v] = (decide (n = u) || decide (n = v)) := by
    show ((u == n) || ((v == n) || false)) = _
    rw [Bool.or_false]
    have e1 : (u == n) = decide (n = u) := by
      by_cases c : n = u
      · rw [decide_eq_true c, c]; exact beq_self_eq_true u
      · rw [decide_eq_false c]; exact beq_eq_false_iff_ne.mpr fun z => c z.symm
    have e2 : (v == n) = decide (n = v) := by
      by_cases c : n = v
      · rw [decide_eq_true c, c]; exact beq_self_eq_true v
      · rw [decide_eq_false c]; exact beq_eq_false_iff_ne.mpr fun z => c z.symm
    rw [e1, e2]
  show Q (.bl (inV (.str n) [.str u, .str v])) H
  rw [e]
  exact q
theorem pure_l_apply {K a b H Q E} (h : P_l_apply K a b H Q E) : t_l_apply K E { nx := fun _ H' => Q .non H', rt := Q } [some a, some b, none] H := by
  obtain ⟨s, d0, d1, T, W, d, rfl, hs, rfl, hT, hf, ow, okw, nd, hl, hkl, k⟩ := h
  have n01 : d0 ≠ d1 := fun e => by have := hs.hv; rw [e, hs.kn] at this; cases this
  have ns0 : s ≠ d0 := fun e => by have := hs.s; rw [e, hs.hv] at this; cases this
  have ns1 : s ≠ d1 := fun e => by have := hs.s; rw [e, hs.kn] at this; cases this
  have nT0 : T ≠ d0 := fun e => by rw [e, hs.hv] at hT; cases hT
  have nT1 : T ≠ d1 := fun e => by rw [e, hs.kn] at hT; cases hT
  cases d with
  | put n w =>
    refine cutN ?_
    ((try (conv => whnf)); repeat (first | (refine cndT rfl ?_; (try (conv => whnf))) | (refine cndF rfl ?_; (try (conv => whnf)))))
    refine ixTk hT (v := .str "put") rfl ?_
    ((try (conv => whnf)); repeat (first | (refine cndT rfl ?_; (try (conv => whnf))) | (refine cndF rfl ?_; (try (conv => whnf)))))
    refine ixTk hT (v := .int w) rfl ?_
    refine ixLk hs.s (v := .ref d0) rfl ?_
    refine ixTk hT (v := .str n) rfl ?_
    refine setD rfl (DPut.k (k := kS n) hs.hv (by rw [emb_len, sizeLine_eq]; omega)) ?_
    (generalize hG : _root_.L2.upd _ d0 _ = H1; have b1 := butOf hG; have e1 := atOf hG; clear hG; ((try (conv => whnf)); repeat (first | (refine cndT rfl ?_; (try (conv => whnf))) | (refine cndF rfl ?_; (try (conv => whnf))))))
    rw [emb_put kS_inj] at e1
    have hT1 := b1.at hT nT0
    refine cutN ?_
    ((try (conv => whnf)); repeat (first | (refine cndT rfl ?_; (try (conv => whnf))) | (refine cndF rfl ?_; (try (conv => whnf)))))
    refine ixTk hT1 (v := .str "put") rfl ?_
    ((try (conv => whnf)); repeat (first | (refine cndT rfl ?_; (try (conv => whnf))) | (refine cndF rfl ?_; (try (conv => whnf)))))
    refine cutN ?_
    ((try (conv => whnf)); repeat (first | (refine cndT rfl ?_; (try (conv => whnf))) | (refine cndF rfl ?_; (try (conv => whnf)))))
    refine ixTk hT1 (v := .str "put") rfl ?_
    ((try (conv => whnf)); repeat (first | (refine cndT rfl ?_; (try (conv => whnf))) | (refine cndF rfl ?_; (try (conv => whnf)))))
    refine cutN ?_
    ((try (conv => whnf)); repeat (first | (refine cndT rfl ?_; (try (conv => whnf))) | (refine cndF rfl ?_; (try (conv => whnf)))))
    refine ixTk hT1 (v := .str "put") rfl ?_
    ((try (conv => whnf)); repeat (first | (refine cndT rfl ?_; (try (conv => whnf))) | (refine cndF rfl ?_; (try (conv => whnf)))))
    ((try (conv => whnf)); repeat (first | (refine cndT rfl ?_; (try (conv => whnf))) | (refine cndF rfl ?_; (try (conv => whnf)))))
    refine ixTk hT1 (v := .str "put") rfl ?_
    ((try (conv => whnf)); repeat (first | (refine cndT rfl ?_; (try (conv => whnf))) | (refine cndF rfl ?_; (try (conv => whnf)))))
    exact k H1 (.but b1 (by simp)) e1 (b1.at hs.kn n01.symm)
  | weigh n w =>
    refine cutN ?_
    ((try (conv => whnf)); repeat (first | (refine cndT rfl ?_; (try (conv => whnf))) | (refine cndF rfl ?_; (try (conv => whnf)))))
    refine ixTk hT (v := .str "weigh") rfl ?_
    ((try (conv => whnf)); repeat (first | (refine cndT rfl ?_; (try (conv => whnf))) | (refine cndF rfl ?_; (try (conv => whnf)))))
    refine ixTk hT (v := .str "weigh") rfl ?_
    ((try (conv => whnf)); repeat (first | (refine cndT rfl ?_; (try (conv => whnf))) | (refine cndF rfl ?_; (try (conv => whnf)))))
    refine ixTk hT (v := .int w) rfl ?_
    refine ixLk hs.s (v := .ref d0) rfl ?_
    refine ixTk hT (v := .str n) rfl ?_
    refine setD rfl (DPut.k (k := kS n) hs.hv (by rw [emb_len, sizeLine_eq]; omega)) ?_
    (generalize hG : _root_.L2.upd _ d0 _ = H1; have b1 := butOf hG; have e1 := atOf hG; clear hG; ((try (conv => whnf)); repeat (first | (refine cndT rfl ?_; (try (conv => whnf))) | (refine cndF rfl ?_; (try (conv => whnf))))))
    rw [emb_put kS_inj] at e1
    have hT1 := b1.at hT nT0
    refine cutN ?_
    ((try (conv => whnf)); repeat (first | (refine cndT rfl ?_; (try (conv => whnf))) | (refine cndF rfl ?_; (try (conv => whnf)))))
    refine ixTk hT1 (v := .str "weigh") rfl ?_
    ((try (conv => whnf)); repeat (first | (refine cndT rfl ?_; (try (conv => whnf))) | (refine cndF rfl ?_; (try (conv => whnf)))))
    refine cutN ?_
    ((try (conv => whnf)); repeat (first | (refine cndT rfl ?_; (try (conv => whnf))) | (refine cndF rfl ?_; (try (conv => whnf)))))
    refine ixTk hT1 (v := .str "weigh") rfl ?_
    ((try (conv => whnf)); repeat (first | (refine cndT rfl ?_; (try (conv => whnf))) | (refine cndF rfl ?_; (try (conv => whnf)))))
    refine cutN ?_
    ((try (conv => whnf)); repeat (first | (refine cndT rfl ?_; (try (conv => whnf))) | (refine cndF rfl ?_; (try (conv => whnf)))))
    refine ixTk hT1 (v := .str "weigh") rfl ?_
    ((try (conv => whnf)); repeat (first | (refine cndT rfl ?_; (try (conv => whnf))) | (refine cndF rfl ?_; (try (conv => whnf)))))
    ((try (conv => whnf)); repeat (first | (refine cndT rfl ?_; (try (conv => whnf))) | (refine cndF rfl ?_; (try (conv => whnf)))))
    refine ixTk hT1 (v := .str "weigh") rfl ?_
    ((try (conv => whnf)); repeat (first | (refine cndT rfl ?_; (try (conv => whnf))) | (refine cndF rfl ?_; (try (conv => whnf)))))
    exact k H1 (.but b1 (by simp)) e1 (b1.at hs.kn n01.symm)
  | drop n =>
    refine cutN ?_
    ((try (conv => whnf)); repeat (first | (refine cndT rfl ?_; (try (conv => whnf))) | (refine cndF rfl ?_; (try (conv => whnf)))))
    refine ixTk hT (v := .str "drop") rfl ?_
    ((try (conv => whnf)); repeat (first | (refine cndT rfl ?_; (try (conv => whnf))) | (refine cndF rfl ?_; (try (conv => whnf)))))
    refine ixTk hT (v := .str "drop") rfl ?_
    ((try (conv => whnf)); repeat (first | (refine cndT rfl ?_; (try (conv => whnf))) | (refine cndF rfl ?_; (try (conv => whnf)))))
    refine cutN ?_
    ((try (conv => whnf)); repeat (first | (refine cndT rfl ?_; (try (conv => whnf))) | (refine cndF rfl ?_; (try (conv => whnf)))))
    refine ixTk hT (v := .str "drop") rfl ?_
    ((try (conv => whnf)); repeat (first | (refine cndT rfl ?_; (try (conv => whnf))) | (refine cndF rfl ?_; (try (conv => whnf)))))
    right
    ((try (conv => whnf)); repeat (first | (refine cndT rfl ?_; (try (conv => whnf))) | (refine cndF rfl ?_; (try (conv => whnf)))))
    refine ixLk hs.s (v := .ref d0) rfl ?_
    ((try (conv => whnf)); repeat (first | (refine cndT rfl ?_; (try (conv => whnf))) | (refine cndF rfl ?_; (try (conv => whnf)))))
    refine ⟨.inr (.inr (.inl ⟨rfl, .inl ⟨_, hs.hv⟩⟩)), ?_⟩
    ((try (conv => whnf)); repeat (first | (refine cndT rfl ?_; (try (conv => whnf))) | (refine cndF rfl ?_; (try (conv => whnf)))))
    refine ixTk hT (v := .str n) rfl ?_
    ((try (conv => whnf)); repeat (first | (refine cndT rfl ?_; (try (conv => whnf))) | (refine cndF rfl ?_; (try (conv => whnf)))))
    obtain ⟨w0, hw0⟩ := Option.isSome_iff_exists.mp (show (getA W.hv n).isSome = true from hf)
    refine ⟨d0, .str n, .int w0, rfl, rfl, .inl ⟨_, kS n, hs.hv, rfl, ?_, ?_⟩⟩
    · rw [emb_val kS_inj, hw0]; rfl
    (generalize hG : _root_.L2.upd _ d0 _ = H1; have b1 := butOf hG; have e1 := atOf hG; clear hG; ((try (conv => whnf)); repeat (first | (refine cndT rfl ?_; (try (conv => whnf))) | (refine cndF rfl ?_; (try (conv => whnf))))))
    rw [emb_drop kS_inj] at e1
    have hT1 := b1.at hT nT0
    have hs1 := b1.at hs.s ns0
    have kn1 := b1.at hs.kn n01.symm
    left
    ((try (conv => whnf)); repeat (first | (refine cndT rfl ?_; (try (conv => whnf))) | (refine cndF rfl ?_; (try (conv => whnf)))))
    refine ixLk hs1 (v := .ref d1) rfl ?_
    ((try (conv => whnf)); repeat (first | (refine cndT rfl ?_; (try (conv => whnf))) | (refine cndF rfl ?_; (try (conv => whnf)))))
    right
    refine ⟨d1, _, rfl, .inl kn1, fun l bs nl hk => ?_⟩
    generalize hG : L2.upd _ l _ = H2
    have s2 := sameOf nl hG
    have e2 := atOf hG
    clear hG
    ((try (conv => whnf)); repeat (first | (refine cndT rfl ?_; (try (conv => whnf))) | (refine cndF rfl ?_; (try (conv => whnf)))))
    left
    refine ⟨_, SqL.of e2, ?_⟩
    have kn2 := s2 _ _ kn1
    have l0 : l ≠ d0 := (ne_of_none e1 nl).symm
    have l1 : l ≠ d1 := (ne_of_none kn1 nl).symm
    have hk2 : ∀ (i : Nat) (e : (Str × Str) × Int), W.kn[i]? = some e → ∃ b, bs[i]? = some b ∧ H2 b = some (.tup [.str e.1.1, .str e.1.2]) := fun i (e : (Str × Str) × Int) he => by
      obtain ⟨b, hb, hb2⟩ := paired_get hk (i := i) (a := (kP e.1, V.int e.2)) (by unfold emb; rw [List.getElem?_map, he]; rfl)
      exact ⟨b, hb, s2 _ _ hb2⟩
    have hlen : bs.length = W.kn.length := by rw [← Paired.length hk, emb_len]
    have hlen' : (bs.map V.ref).length = W.kn.length := by rw [List.length_map, hlen]
    refine forL (SqL.of e2) (fun i σ H' => Kx [d0, d1] H2 H' ∧ H' d0 = some (.dK (emb kS (dropA W.hv n))) ∧ H' d1 = some (.dT (emb kP ((W.kn.take i).filter (fun e => !touch n e) ++ W.kn.drop i))) ∧ ∃ v2 : Option V, σ = [some (.ref s), some (.ref T), v2]) ⟨Kx.refl, s2 _ _ e1, kn2, _, rfl⟩ ?_ ?_ ?_
    · rintro i σ H' _ ⟨kx, _, _, _⟩
      exact SqL.of (kx l _ (by simp [l0, l1]) e2)
    · rintro i y σ H' hy ⟨kx, hp', hq', v2, rfl⟩
      rw [List.getElem?_map] at hy
      obtain ⟨b, hb, rfl⟩ := Option.map_eq_some_iff.mp hy
      have hi : i < W.kn.length := by
        rw [← hlen]
        rcases Nat.lt_or_ge i bs.length with h | h
        · exact h
        · rw [List.getElem?_eq_none h] at hb; cases hb
      obtain ⟨e, he⟩ : ∃ e, W.kn[i]? = some e := ⟨W.kn[i], List.getElem?_eq_getElem hi⟩
      obtain ⟨b', hb', hbt⟩ := hk2 i e he
      rw [hb] at hb'
      cases hb'
      have nb0 : b ≠ d0 := fun z => by rw [z, s2 _ _ e1] at hbt; cases hbt
      have nb1 : b ≠ d1 := fun z => by rw [z, kn2] at hbt; cases hbt
      have hbt' := kx b _ (by simp [nb0, nb1]) hbt
      have hs' := kx s _ (by simp [ns0, ns1]) (s2 _ _ hs1)
      have hT' := kx T _ (by simp [nT0, nT1]) (s2 _ _ hT1)
      obtain ⟨q1, q2, q3⟩ := drop_step nd he (fun e => !touch n e)
      obtain ⟨w1, hg⟩ := getA_mid nd he (fun e => !touch n e)
      ((try (conv => whnf)); repeat (first | (refine cndT rfl ?_; (try (conv => whnf))) | (refine cndF rfl ?_; (try (conv => whnf)))))
      refine ixTk hT' (v := .str n) rfl ?_
      ((try (conv => whnf)); repeat (first | (refine cndT rfl ?_; (try (conv => whnf))) | (refine cndF rfl ?_; (try (conv => whnf)))))
      refine inT2 hbt' ?_
      ((try (conv => whnf)); repeat (first | (refine cndT rfl ?_; (try (conv => whnf))) | (refine cndF rfl ?_; (try (conv => whnf)))))
      refine cndB (fun c1 => ?_) (fun c1 => ?_)
      · have c1 : touch n e = true := c1
        right
        ((try (conv => whnf)); repeat (first | (refine cndT rfl ?_; (try (conv => whnf))) | (refine cndF rfl ?_; (try (conv => whnf)))))
        refine ixLk hs' (v := .ref d1) rfl ?_
        ((try (conv => whnf)); repeat (first | (refine cndT rfl ?_; (try (conv => whnf))) | (refine cndF rfl ?_; (try (conv => whnf)))))
        refine ⟨.inr (.inr (.inl ⟨rfl, .inr ⟨_, hq'⟩⟩)), ?_⟩
        ((try (conv => whnf)); repeat (first | (refine cndT rfl ?_; (try (conv => whnf))) | (refine cndF rfl ?_; (try (conv => whnf)))))
        refine ⟨d1, .ref b, .int w1, rfl, rfl, .inr ⟨_, kP e.1, b, hq', rfl, hbt', ?_, ?_⟩⟩
        · rw [emb_val kP_inj, hg]; rfl
        (generalize hG : _root_.L2.upd _ d1 _ = H4; have b4 := butOf hG; have e4 := atOf hG; clear hG; ((try (conv => whnf)); repeat (first | (refine cndT rfl ?_; (try (conv => whnf))) | (refine cndF rfl ?_; (try (conv => whnf))))))
        rw [emb_drop kP_inj, q1] at e4
        refine ⟨kx.trans (.but b4 (by simp)), b4.at hp' n01, ?_, _, rfl⟩
        rw [e4, q3, List.filter_append, List.filter_cons_of_neg (by simp [c1]), List.filter_nil, List.append_nil]
      · have c1 : touch n e = false := c1
        ((try (conv => whnf)); repeat (first | (refine cndT rfl ?_; (try (conv => whnf))) | (refine cndF rfl ?_; (try (conv => whnf)))))
        refine ⟨kx, hp', ?_, _, rfl⟩
        rw [hq', q3, List.filter_append, List.filter_cons_of_pos (by simp [c1]), List.filter_nil, List.append_assoc, q2]
        rfl
    · rintro σ H' ⟨kx, hp', hq', v2, rfl⟩
      rw [hlen', List.take_of_length_le (Nat.le_refl _), List.drop_of_length_le (Nat.le_refl _), List.append_nil] at hq'
      have hT' := kx T _ (by simp [nT0, nT1]) (s2 _ _ hT1)
      refine cutN ?_
      ((try (conv => whnf)); repeat (first | (refine cndT rfl ?_; (try (conv => whnf))) | (refine cndF rfl ?_; (try (conv => whnf)))))
      refine ixTk hT' (v := .str "drop") rfl ?_
      ((try (conv => whnf)); repeat (first | (refine cndT rfl ?_; (try (conv => whnf))) | (refine cndF rfl ?_; (try (conv => whnf)))))
      refine cutN ?_
      ((try (conv => whnf)); repeat (first | (refine cndT rfl ?_; (try (conv => whnf))) | (refine cndF rfl ?_; (try (conv => whnf)))))
      refine ixTk hT' (v := .str "drop") rfl ?_
      ((try (conv => whnf)); repeat (first | (refine cndT rfl ?_; (try (conv => whnf))) | (refine cndF rfl ?_; (try (conv => whnf)))))
      ((try (conv => whnf)); repeat (first | (refine cndT rfl ?_; (try (conv => whnf))) | (refine cndF rfl ?_; (try (conv => whnf)))))
      refine ixTk hT' (v := .str "drop") rfl ?_
      ((try (conv => whnf)); repeat (first | (refine cndT rfl ?_; (try (conv => whnf))) | (refine cndF rfl ?_; (try (conv => whnf)))))
      exact k H' (((Kx.but b1 (by simp)).trans (.same s2)).trans kx) hp' hq'
  | tie n m w =>
    refine cutN ?_
    ((try (conv => whnf)); repeat (first | (refine cndT rfl ?_; (try (conv => whnf))) | (refine cndF rfl ?_; (try (conv => whnf)))))
    refine ixTk hT (v := .str "tie") rfl ?_
    ((try (conv => whnf)); repeat (first | (refine cndT rfl ?_; (try (conv => whnf))) | (refine cndF rfl ?_; (try (conv => whnf)))))
    refine ixTk hT (v := .str "tie") rfl ?_
    ((try (conv => whnf)); repeat (first | (refine cndT rfl ?_; (try (conv => whnf))) | (refine cndF rfl ?_; (try (conv => whnf)))))
    refine cutN ?_
    ((try (conv => whnf)); repeat (first | (refine cndT rfl ?_; (try (conv => whnf))) | (refine cndF rfl ?_; (try (conv => whnf)))))
    refine ixTk hT (v := .str "tie") rfl ?_
    ((try (conv => whnf)); repeat (first | (refine cndT rfl ?_; (try (conv => whnf))) | (refine cndF rfl ?_; (try (conv => whnf)))))
    refine cutN ?_
    ((try (conv => whnf)); repeat (first | (refine cndT rfl ?_; (try (conv => whnf))) | (refine cndF rfl ?_; (try (conv => whnf)))))
    refine ixTk hT (v := .str "tie") rfl ?_
    ((try (conv => whnf)); repeat (first | (refine cndT rfl ?_; (try (conv => whnf))) | (refine cndF rfl ?_; (try (conv => whnf)))))
    refine ixTk hT (v := .int w) rfl ?_
    refine ixLk hs.s (v := .ref d1) rfl ?_
    ((try (conv => whnf)); repeat (first | (refine cndT rfl ?_; (try (conv => whnf))) | (refine cndF rfl ?_; (try (conv => whnf)))))
    refine ixTk hT (v := .str n) rfl ?_
    refine ixTk hT (v := .str m) rfl ?_
    ((try (conv => whnf)); repeat (first | (refine cndT rfl ?_; (try (conv => whnf))) | (refine cndF rfl ?_; (try (conv => whnf)))))
    refine ⟨by show 2 ≤ sizeLine; decide, ?_⟩
    (intro t nt; generalize hG : _root_.L2.upd _ t _ = H1; have s1 := sameOf nt hG; have e1 := atOf hG; clear hG; ((try (conv => whnf)); repeat (first | (refine cndT rfl ?_; (try (conv => whnf))) | (refine cndF rfl ?_; (try (conv => whnf))))))
    refine setD rfl (DPut.t (k := kP (n, m)) (s1 _ _ hs.kn) e1 (by rw [emb_len, sizeLine_eq]; omega)) ?_
    (generalize hG : _root_.L2.upd _ d1 _ = H2; have b2 := butOf hG; have e2 := atOf hG; clear hG; ((try (conv => whnf)); repeat (first | (refine cndT rfl ?_; (try (conv => whnf))) | (refine cndF rfl ?_; (try (conv => whnf))))))
    rw [emb_put kP_inj] at e2
    have hT2 := b2.at (s1 _ _ hT) nT1
    refine cutN ?_
    ((try (conv => whnf)); repeat (first | (refine cndT rfl ?_; (try (conv => whnf))) | (refine cndF rfl ?_; (try (conv => whnf)))))
    refine ixTk hT2 (v := .str "tie") rfl ?_
    ((try (conv => whnf)); repeat (first | (refine cndT rfl ?_; (try (conv => whnf))) | (refine cndF rfl ?_; (try (conv => whnf)))))
    ((try (conv => whnf)); repeat (first | (refine cndT rfl ?_; (try (conv => whnf))) | (refine cndF rfl ?_; (try (conv => whnf)))))
    refine ixTk hT2 (v := .str "tie") rfl ?_
    ((try (conv => whnf)); repeat (first | (refine cndT rfl ?_; (try (conv => whnf))) | (refine cndF rfl ?_; (try (conv => whnf)))))
    exact k H2 ((Kx.same s1).trans (.but b2 (by simp))) (b2.at (s1 _ _ hs.hv) n01) e2
  | more n m w =>
    refine cutN ?_
    ((try (conv => whnf)); repeat (first | (refine cndT rfl ?_; (try (conv => whnf))) | (refine cndF rfl ?_; (try (conv => whnf)))))
    refine ixTk hT (v := .str "more") rfl ?_
    ((try (conv => whnf)); repeat (first | (refine cndT rfl ?_; (try (conv => whnf))) | (refine cndF rfl ?_; (try (conv => whnf)))))
    refine ixTk hT (v := .str "more") rfl ?_
    ((try (conv => whnf)); repeat (first | (refine cndT rfl ?_; (try (conv => whnf))) | (refine cndF rfl ?_; (try (conv => whnf)))))
    refine cutN ?_
    ((try (conv => whnf)); repeat (first | (refine cndT rfl ?_; (try (conv => whnf))) | (refine cndF rfl ?_; (try (conv => whnf)))))
    refine ixTk hT (v := .str "more") rfl ?_
    ((try (conv => whnf)); repeat (first | (refine cndT rfl ?_; (try (conv => whnf))) | (refine cndF rfl ?_; (try (conv => whnf)))))
    refine cutN ?_
    ((try (conv => whnf)); repeat (first | (refine cndT rfl ?_; (try (conv => whnf))) | (refine cndF rfl ?_; (try (conv => whnf)))))
    refine ixTk hT (v := .str "more") rfl ?_
    ((try (conv => whnf)); repeat (first | (refine cndT rfl ?_; (try (conv => whnf))) | (refine cndF rfl ?_; (try (conv => whnf)))))
    refine cutN ?_
    ((try (conv => whnf)); repeat (first | (refine cndT rfl ?_; (try (conv => whnf))) | (refine cndF rfl ?_; (try (conv => whnf)))))
    refine ixTk hT (v := .str "more") rfl ?_
    ((try (conv => whnf)); repeat (first | (refine cndT rfl ?_; (try (conv => whnf))) | (refine cndF rfl ?_; (try (conv => whnf)))))
    refine ixTk hT (v := .str n) rfl ?_
    refine ixTk hT (v := .str m) rfl ?_
    ((try (conv => whnf)); repeat (first | (refine cndT rfl ?_; (try (conv => whnf))) | (refine cndF rfl ?_; (try (conv => whnf)))))
    obtain ⟨u, v, hk⟩ : ∃ u v, knotW W n m = some (u, v) := by
      obtain ⟨z, hz⟩ := Option.isSome_iff_exists.mp hf
      exact ⟨z.1, z.2, hz⟩
    obtain ⟨w0, hg⟩ := knotW_some hk
    refine ⟨s, d0, d1, W, n, m, rfl, hs, rfl, rfl, ow, okw.2.1, okw.2.2, okw.1, fun P u' v' H1 e s1 eP => ?_, fun H1 e s1 => (by rw [hk] at e; cases e)⟩
    rw [hk] at e
    cases e
    have hT1 := s1 _ _ hT
    have hs1 := hs.same s1
    have nP1 : P ≠ d1 := fun e => by rw [e, hs1.kn] at eP; cases eP
    ((try (conv => whnf)); repeat (first | (refine cndT rfl ?_; (try (conv => whnf))) | (refine cndF rfl ?_; (try (conv => whnf)))))
    refine ixLk hs1.s (v := .ref d1) rfl ?_
    have g := DGet.t (k := kP (u, v)) hs1.kn eP
    rw [emb_val kP_inj, hg] at g
    refine ixD g ?_
    refine ixTk hT1 (v := .int w) rfl ?_
    ((try (conv => whnf)); repeat (first | (refine cndT rfl ?_; (try (conv => whnf))) | (refine cndF rfl ?_; (try (conv => whnf)))))
    refine ixLk hs1.s (v := .ref d1) rfl ?_
    ((try (conv => whnf)); repeat (first | (refine cndT rfl ?_; (try (conv => whnf))) | (refine cndF rfl ?_; (try (conv => whnf)))))
    refine setD rfl (DPut.t (k := kP (u, v)) hs1.kn eP (by rw [emb_len, sizeLine_eq]; omega)) ?_
    (generalize hG : _root_.L2.upd _ d1 _ = H2; have b2 := butOf hG; have e2 := atOf hG; clear hG; ((try (conv => whnf)); repeat (first | (refine cndT rfl ?_; (try (conv => whnf))) | (refine cndF rfl ?_; (try (conv => whnf))))))
    rw [emb_put kP_inj] at e2
    have hT2 := b2.at hT1 nT1
    have ed : doneW W (.more n m w) = ⟨W.hv, putA W.kn (u, v) (w0 + w)⟩ := by
      show (match knotW W n m with | some k => _ | none => _) = _
      rw [hk]
      show WebS.mk _ _ = _
      rw [hg]
      rfl
    ((try (conv => whnf)); repeat (first | (refine cndT rfl ?_; (try (conv => whnf))) | (refine cndF rfl ?_; (try (conv => whnf)))))
    refine ixTk hT2 (v := .str "more") rfl ?_
    ((try (conv => whnf)); repeat (first | (refine cndT rfl ?_; (try (conv => whnf))) | (refine cndF rfl ?_; (try (conv => whnf)))))
    exact k H2 ((Kx.same s1).trans (.but b2 (by simp))) (by rw [ed]; exact b2.at hs1.hv n01) (by rw [ed]; exact e2)
  | untie n m =>
    refine cutN ?_
    ((try (conv => whnf)); repeat (first | (refine cndT rfl ?_; (try (conv => whnf))) | (refine cndF rfl ?_; (try (conv => whnf)))))
    refine ixTk hT (v := .str "untie") rfl ?_
    ((try (conv => whnf)); repeat (first | (refine cndT rfl ?_; (try (conv => whnf))) | (refine cndF rfl ?_; (try (conv => whnf)))))
    refine ixTk hT (v := .str "untie") rfl ?_
    ((try (conv => whnf)); repeat (first | (refine cndT rfl ?_; (try (conv => whnf))) | (refine cndF rfl ?_; (try (conv => whnf)))))
    refine cutN ?_
    ((try (conv => whnf)); repeat (first | (refine cndT rfl ?_; (try (conv => whnf))) | (refine cndF rfl ?_; (try (conv => whnf)))))
    refine ixTk hT (v := .str "untie") rfl ?_
    ((try (conv => whnf)); repeat (first | (refine cndT rfl ?_; (try (conv => whnf))) | (refine cndF rfl ?_; (try (conv => whnf)))))
    refine cutN ?_
    ((try (conv => whnf)); repeat (first | (refine cndT rfl ?_; (try (conv => whnf))) | (refine cndF rfl ?_; (try (conv => whnf)))))
    refine ixTk hT (v := .str "untie") rfl ?_
    ((try (conv => whnf)); repeat (first | (refine cndT rfl ?_; (try (conv => whnf))) | (refine cndF rfl ?_; (try (conv => whnf)))))
    refine cutN ?_
    ((try (conv => whnf)); repeat (first | (refine cndT rfl ?_; (try (conv => whnf))) | (refine cndF rfl ?_; (try (conv => whnf)))))
    refine ixTk hT (v := .str "untie") rfl ?_
    ((try (conv => whnf)); repeat (first | (refine cndT rfl ?_; (try (conv => whnf))) | (refine cndF rfl ?_; (try (conv => whnf)))))
    ((try (conv => whnf)); repeat (first | (refine cndT rfl ?_; (try (conv => whnf))) | (refine cndF rfl ?_; (try (conv => whnf)))))
    refine ixTk hT (v := .str "untie") rfl ?_
    ((try (conv => whnf)); repeat (first | (refine cndT rfl ?_; (try (conv => whnf))) | (refine cndF rfl ?_; (try (conv => whnf)))))
    right
    ((try (conv => whnf)); repeat (first | (refine cndT rfl ?_; (try (conv => whnf))) | (refine cndF rfl ?_; (try (conv => whnf)))))
    refine ixLk hs.s (v := .ref d1) rfl ?_
    ((try (conv => whnf)); repeat (first | (refine cndT rfl ?_; (try (conv => whnf))) | (refine cndF rfl ?_; (try (conv => whnf)))))
    refine ⟨.inr (.inr (.inl ⟨rfl, .inr ⟨_, hs.kn⟩⟩)), ?_⟩
    ((try (conv => whnf)); repeat (first | (refine cndT rfl ?_; (try (conv => whnf))) | (refine cndF rfl ?_; (try (conv => whnf)))))
    refine ixTk hT (v := .str n) rfl ?_
    refine ixTk hT (v := .str m) rfl ?_
    ((try (conv => whnf)); repeat (first | (refine cndT rfl ?_; (try (conv => whnf))) | (refine cndF rfl ?_; (try (conv => whnf)))))
    obtain ⟨u, v, hk⟩ : ∃ u v, knotW W n m = some (u, v) := by
      obtain ⟨z, hz⟩ := Option.isSome_iff_exists.mp hf
      exact ⟨z.1, z.2, hz⟩
    obtain ⟨w0, hg⟩ := knotW_some hk
    refine ⟨s, d0, d1, W, n, m, rfl, hs, rfl, rfl, ow, okw.2.1, okw.2.2, okw.1, fun P u' v' H1 e s1 eP => ?_, fun H1 e s1 => (by rw [hk] at e; cases e)⟩
    rw [hk] at e
    cases e
    have hT1 := s1 _ _ hT
    have hs1 := hs.same s1
    have nP1 : P ≠ d1 := fun e => by rw [e, hs1.kn] at eP; cases eP
    ((try (conv => whnf)); repeat (first | (refine cndT rfl ?_; (try (conv => whnf))) | (refine cndF rfl ?_; (try (conv => whnf)))))
    refine ⟨d1, .ref P, .int w0, rfl, rfl, .inr ⟨_, kP (u, v), P, hs1.kn, rfl, eP, ?_, ?_⟩⟩
    · rw [emb_val kP_inj, hg]; rfl
    (generalize hG : _root_.L2.upd _ d1 _ = H2; have b2 := butOf hG; have e2 := atOf hG; clear hG; ((try (conv => whnf)); repeat (first | (refine cndT rfl ?_; (try (conv => whnf))) | (refine cndF rfl ?_; (try (conv => whnf))))))
    rw [emb_drop kP_inj] at e2
    have ed : doneW W (.untie n m) = ⟨W.hv, dropA W.kn (u, v)⟩ := by
      show (match knotW W n m with | some k => _ | none => _) = _
      rw [hk]
    exact k H2 ((Kx.same s1).trans (.but b2 (by simp))) (by rw [ed]; exact b2.at hs1.hv n01) (by rw [ed]; exact e2)
theorem WebO.ne {K H x p q W} (h : WebO K H x p q W) : x ≠ p ∧ x ≠ q ∧ p ≠ q := by
  obtain ⟨dx, ho⟩ := h.o
  exact ⟨fun e => (by rw [e, h.hv] at ho; cases ho), fun e => (by rw [e, h.kn] at ho; cases ho), fun e => (by have := h.hv; rw [e, h.kn] at this; cases this)⟩
theorem idxF {l : List (Str × Int)} {n : Str} (hn : (getA l n).isSome = true) : ∃ z : V, (l.map fun e => V.str e.1).all flatV = true ∧ (l.map fun e => V.str e.1)[rankA l n]? = some z ∧ eqV z (.str n) = true ∧
    ∀ (m : Nat) (z' : V), m < rankA l n → (l.map fun e => V.str e.1)[m]? = some z' → eqV z' (.str n) = false := by
  obtain ⟨h1, e, h2, h3⟩ := rank_lt hn
  refine ⟨.str e.1, ?_, by rw [List.getElem?_map, h2]; rfl, by show (e.1 == n) = true; rw [h3]; exact beq_self_eq_true n, fun m z hm hz => ?_⟩
  · rw [List.all_map]
    exact List.all_eq_true.mpr fun _ _ => rfl
  · rw [List.getElem?_map] at hz
    obtain ⟨e2, he2, rfl⟩ := Option.map_eq_some_iff.mp hz
    show (e2.1 == n) = false
    refine beq_eq_false_iff_ne.mpr fun c => ?_
    have hml : m < l.length := by
      rcases Nat.lt_or_ge m l.length with h | h
      · exact h
      · rw [List.getElem?_eq_none h] at he2; cases he2
    have := List.not_of_lt_findIdx (p := fun e : Str × Int => decide (e.1 = n)) (xs := l) hm
    rw [List.getElem?_eq_getElem hml] at he2
    have e3 := Option.some.inj he2
    rw [e3] at this
    exact absurd (decide_eq_true c) (by simpa using this)
theorem pure_l_ties {K a H Q E} (h : P_l_ties K a H Q E) : t_l_ties K E { nx := fun _ H' => Q .non H', rt := Q } [some a, none, none, none, none] H := by
  obtain ⟨s, d0, d1, W, rfl, hs, nd, hl, hkl, hk, k⟩ := h
  have n01 : d0 ≠ d1 := fun e => by have := hs.hv; rw [e, hs.kn] at this; cases this
  have ns1 : s ≠ d1 := fun e => by have := hs.s; rw [e, hs.kn] at this; cases this
  ((try (conv => whnf)); repeat (first | (refine cndT rfl ?_; (try (conv => whnf))) | (refine cndF rfl ?_; (try (conv => whnf)))))
  refine ixLk hs.s (v := .ref d0) rfl ?_
  left
  refine ⟨d0, _, rfl, hs.hv, ?_⟩
  (intro r nr; generalize hG : _root_.L2.upd _ r _ = G; have s1 := sameOf nr hG; have e1 := atOf hG; clear hG; ((try (conv => whnf)); repeat (first | (refine cndT rfl ?_; (try (conv => whnf))) | (refine cndF rfl ?_; (try (conv => whnf))))))
  have e1' : G r = some (.lst (W.hv.map fun e => V.str e.1)) := by rw [e1]; unfold emb; rw [List.map_map]; rfl
  clear e1
  refine ⟨by show 0 ≤ sizeLine; decide, ?_⟩
  (intro l nl; generalize hG : _root_.L2.upd _ l _ = H4; have s4 := sameOf nl hG; have e4 := atOf hG; clear hG; ((try (conv => whnf)); repeat (first | (refine cndT rfl ?_; (try (conv => whnf))) | (refine cndF rfl ?_; (try (conv => whnf))))))
  have hsG := hs.same s1
  have hs4 := hsG.same s4
  have nlr : r ≠ l := ne_of_none e1' nl
  have nl1 : d1 ≠ l := ne_of_none hsG.kn nl
  have nr1 : r ≠ d1 := (ne_of_none hs.kn nr).symm
  refine ⟨d1, _, hs4.kn, trivial, fun od2 => ?_⟩
  (generalize hG : _root_.L2.upd _ d1 _ = HM; have bM := butOf hG; have eM := atOf hG; clear hG; ((try (conv => whnf)); repeat (first | (refine cndT rfl ?_; (try (conv => whnf))) | (refine cndF rfl ?_; (try (conv => whnf))))))
  refine ixLk (bM.at hs4.s ns1) (v := .ref d1) rfl ?_
  ((try (conv => whnf)); repeat (first | (refine cndT rfl ?_; (try (conv => whnf))) | (refine cndF rfl ?_; (try (conv => whnf)))))
  refine ⟨d1, od2, rfl, .inr ⟨_, eM, ?_⟩⟩
  refine forIt walk_itemsT (fun i σ H' => Kx [l] HM H' ∧ (∃ ts, H' l = some (.lst (ts.map V.ref)) ∧ ts.length = i ∧ Paired (isTie H') ts ((W.kn.map (tieT W)).take i)) ∧ ∃ v3 v4 : Option V, σ = [some (.ref s), some (.ref r), some (.ref l), v3, v4]) ⟨Kx.refl, ⟨[], bM.at e4 nl1.symm, rfl, .nil⟩, _, _, rfl⟩ ?_ ?_ ?_
  · rintro i σ H' _ ⟨kx, _⟩
    exact kx d1 _ (by simp [nl1]) eM
  · rintro i y σ H5 H6 hi ⟨kx, ⟨ts, hts, htl, htp⟩, v3, v4, rfl⟩ ⟨T, k', v', kq, hk', hkq, rfl, nT, e6⟩
    have s6 := sameOf nT e6.symm
    have eT := atOf e6.symm
    clear e6
    obtain ⟨e, he, e1'', e2''⟩ : ∃ e, W.kn[i]? = some e ∧ k' = kP e.1 ∧ v' = .int e.2 := by
      unfold emb at hk'
      rw [List.getElem?_map] at hk'
      obtain ⟨e, he, ee⟩ := Option.map_eq_some_iff.mp hk'
      cases ee
      exact ⟨e, he, rfl, rfl⟩
    subst e1'' e2''
    have hi' : i < 200 := by rw [emb_len] at hi; omega
    obtain ⟨p1, p2⟩ := hk e (List.mem_of_getElem? he)
    have hr6 := s6 _ _ (kx r _ (by simp [nlr]) (bM.at (s4 _ _ e1') nr1))
    have hkq6 : H6 kq = some (.tup [.str e.1.1, .str e.1.2]) := s6 _ _ hkq
    have htk : (W.kn.map (tieT W)).take (i + 1) = (W.kn.map (tieT W)).take i ++ [tieT W e] := by
      rw [List.take_add_one, List.getElem?_map, he]; rfl
    have hl6 := s6 _ _ hts
    have fin : ∀ (t : Addr) (H7 H8 : Hp), Same H6 H7 → H7 t = some (.tup [.str (tieT W e).1.1, .str (tieT W e).1.2, .int (tieT W e).2]) → But l H7 H8 → H8 l = some (.lst (ts.map V.ref ++ [.ref t])) →
        Kx [l] HM H8 ∧ ∃ ts', H8 l = some (.lst (ts'.map V.ref)) ∧ ts'.length = i + 1 ∧ Paired (isTie H8) ts' ((W.kn.map (tieT W)).take (i + 1)) := fun t H7 H8 s7 et b8 e8 => by
      refine ⟨(kx.trans (.same (s6.trans s7))).trans (.but b8 (by simp)), ts ++ [t], by rw [e8, List.map_append]; rfl, by rw [List.length_append, htl]; rfl, ?_⟩
      rw [htk]
      refine Paired.snoc (Paired.mapP htp fun a b hab => ?_) ?_
      · have h7 := s7 _ _ (s6 _ _ hab)
        exact b8.at h7 (fun z => by rw [z, s7 _ _ hl6] at h7; cases h7)
      · exact b8.at et (fun z => by rw [z, s7 _ _ hl6] at et; cases et)
    ((try (conv => whnf)); repeat (first | (refine cndT rfl ?_; (try (conv => whnf))) | (refine cndF rfl ?_; (try (conv => whnf)))))
    refine ⟨T, _, rfl, SqT.of eT, rfl, _, _, rfl, _, _, rfl, rfl, ?_⟩
    ((try (conv => whnf)); repeat (first | (refine cndT rfl ?_; (try (conv => whnf))) | (refine cndF rfl ?_; (try (conv => whnf)))))
    refine ⟨.inl ⟨rfl, _, SqL.of hr6⟩, ?_⟩
    ((try (conv => whnf)); repeat (first | (refine cndT rfl ?_; (try (conv => whnf))) | (refine cndF rfl ?_; (try (conv => whnf)))))
    refine ixTk hkq6 (v := .str e.1.1) rfl ?_
    ((try (conv => whnf)); repeat (first | (refine cndT rfl ?_; (try (conv => whnf))) | (refine cndF rfl ?_; (try (conv => whnf)))))
    obtain ⟨z1, f1, f2, f3, f4⟩ := idxF p1
    refine ⟨r, _, .str e.1.1, rankA W.hv e.1.1, z1, rfl, rfl, SqL.of hr6, rfl, f1, f2, f3, f4, ?_⟩
    ((try (conv => whnf)); repeat (first | (refine cndT rfl ?_; (try (conv => whnf))) | (refine cndF rfl ?_; (try (conv => whnf)))))
    refine ⟨.inl ⟨rfl, _, SqL.of hr6⟩, ?_⟩
    ((try (conv => whnf)); repeat (first | (refine cndT rfl ?_; (try (conv => whnf))) | (refine cndF rfl ?_; (try (conv => whnf)))))
    refine ixTk hkq6 (v := .str e.1.2) rfl ?_
    ((try (conv => whnf)); repeat (first | (refine cndT rfl ?_; (try (conv => whnf))) | (refine cndF rfl ?_; (try (conv => whnf)))))
    obtain ⟨z2, g1, g2, g3, g4⟩ := idxF p2
    refine ⟨r, _, .str e.1.2, rankA W.hv e.1.2, z2, rfl, rfl, SqL.of hr6, rfl, g1, g2, g3, g4, ?_⟩
    ((try (conv => whnf)); repeat (first | (refine cndT rfl ?_; (try (conv => whnf))) | (refine cndF rfl ?_; (try (conv => whnf)))))
    (refine cndB (fun c1 => ?_) (fun c1 => ?_) <;> (try simp only [Bool.not_eq_eq_eq_not, Bool.not_true, Bool.not_false, decide_eq_true_eq, decide_eq_false_iff_not, Int.not_le, Int.not_lt] at c1) <;> ((try (conv => whnf)); repeat (first | (refine cndT rfl ?_; (try (conv => whnf))) | (refine cndF rfl ?_; (try (conv => whnf))))))
    · refine ⟨.inl ⟨rfl, _, SqL.of hl6⟩, ?_⟩
      ((try (conv => whnf)); repeat (first | (refine cndT rfl ?_; (try (conv => whnf))) | (refine cndF rfl ?_; (try (conv => whnf)))))
      refine ixTk hkq6 (v := .str e.1.1) rfl ?_
      refine ixTk hkq6 (v := .str e.1.2) rfl ?_
      ((try (conv => whnf)); repeat (first | (refine cndT rfl ?_; (try (conv => whnf))) | (refine cndF rfl ?_; (try (conv => whnf)))))
      refine ⟨by show 3 ≤ sizeLine; decide, ?_⟩
      (intro t nt; generalize hG : _root_.L2.upd _ t _ = H7; have s7 := sameOf nt hG; have e7 := atOf hG; clear hG; ((try (conv => whnf)); repeat (first | (refine cndT rfl ?_; (try (conv => whnf))) | (refine cndF rfl ?_; (try (conv => whnf))))))
      refine ⟨l, _, _, rfl, rfl, s7 _ _ hl6, by rw [List.length_map, sizeLine_eq]; omega, ?_⟩
      (generalize hG : _root_.L2.upd _ l _ = H8; have b8 := butOf hG; have e8 := atOf hG; clear hG; ((try (conv => whnf)); repeat (first | (refine cndT rfl ?_; (try (conv => whnf))) | (refine cndF rfl ?_; (try (conv => whnf))))))
      obtain ⟨a1, a2⟩ := fin t H7 H8 s7 (by rw [show tieT W e = e by unfold tieT; rw [if_pos (by omega)]]; exact e7) b8 e8
      exact ⟨a1, a2, _, _, rfl⟩
    · refine ⟨.inl ⟨rfl, _, SqL.of hl6⟩, ?_⟩
      ((try (conv => whnf)); repeat (first | (refine cndT rfl ?_; (try (conv => whnf))) | (refine cndF rfl ?_; (try (conv => whnf)))))
      refine ixTk hkq6 (v := .str e.1.2) rfl ?_
      refine ixTk hkq6 (v := .str e.1.1) rfl ?_
      ((try (conv => whnf)); repeat (first | (refine cndT rfl ?_; (try (conv => whnf))) | (refine cndF rfl ?_; (try (conv => whnf)))))
      refine ⟨by show 3 ≤ sizeLine; decide, ?_⟩
      (intro t nt; generalize hG : _root_.L2.upd _ t _ = H7; have s7 := sameOf nt hG; have e7 := atOf hG; clear hG; ((try (conv => whnf)); repeat (first | (refine cndT rfl ?_; (try (conv => whnf))) | (refine cndF rfl ?_; (try (conv => whnf))))))
      refine ⟨l, _, _, rfl, rfl, s7 _ _ hl6, by rw [List.length_map, sizeLine_eq]; omega, ?_⟩
      (generalize hG : _root_.L2.upd _ l _ = H8; have b8 := butOf hG; have e8 := atOf hG; clear hG; ((try (conv => whnf)); repeat (first | (refine cndT rfl ?_; (try (conv => whnf))) | (refine cndF rfl ?_; (try (conv => whnf))))))
      obtain ⟨a1, a2⟩ := fin t H7 H8 s7 (by rw [show tieT W e = ((e.1.2, e.1.1), e.2) by unfold tieT; rw [if_neg (by omega)]]; exact e7) b8 e8
      exact ⟨a1, a2, _, _, rfl⟩
  · rintro σ H5 ⟨kx, ⟨ts, hts, htl, htp⟩, v3, v4, rfl⟩
    refine ⟨kx d1 _ (by simp [nl1]) eM, ?_⟩
    generalize hG5 : L2.upd _ d1 _ = G5
    have kG5 : Kx [l] H4 G5 := unlockK hs4.kn bM kx hG5
    have hG5l : G5 l = some (.lst (ts.map V.ref)) := by rw [← hG5, upd_ne nl1.symm, hts]
    ((try (conv => whnf)); repeat (first | (refine cndT rfl ?_; (try (conv => whnf))) | (refine cndF rfl ?_; (try (conv => whnf)))))
    refine k l ts G5 (s1.free nl) (fun b o e => kG5 b o (fun z => ne_n (some_ne (s1 _ _ e)) nl (by simpa using z)) (s4 _ _ (s1 _ _ e))) hG5l ?_
    rw [emb_len, List.take_of_length_le (by rw [List.length_map]; exact Nat.le_refl _)] at htp
    refine Paired.mapP htp fun a b hab => ?_
    show G5 a = _
    rw [← hG5, upd_ne (fun z => by
      have h2 : H5 a = _ := hab
      rw [z, kx d1 _ (by simp [nl1]) eM] at h2
      cases h2)]
    exact hab
/-! ### data -/
theorem tieT_ok {W : WebS} (h : okN W) : ∀ d ∈ (W.kn.map (tieT W)).map dT3, d.canLay0 = true ∧ d.depth ≤ 60 := by
  intro d hd
  obtain ⟨e, he, rfl⟩ := List.mem_map.mp hd
  obtain ⟨e', he', rfl⟩ := List.mem_map.mp he
  obtain ⟨h1, h2⟩ := h.2 e' he'
  unfold tieT
  split
  · exact dT3_ok h1 h2
  · exact dT3_ok (e := ((e'.1.2, e'.1.1), e'.2)) h2 h1
theorem getA_val {α : Type} [DecidableEq α] {l : List (α × Int)} (nd : (l.map Prod.fst).Nodup) {i : Nat} {e : α × Int} (he : l[i]? = some e) : getA l e.1 = some e.2 := by
  have hs := getA_mem he
  unfold getA at hs ⊢
  cases hf : List.find? (fun p => decide (p.1 = e.1)) l with
  | none => rw [hf] at hs; cases hs
  | some z =>
    have hz := List.find?_some hf
    have hz := of_decide_eq_true hz
    obtain ⟨j, hj, ej⟩ := List.getElem_of_mem (List.mem_of_find?_eq_some hf)
    have hi : i < l.length := by
      rcases Nat.lt_or_ge i l.length with h | h
      · exact h
      · rw [List.getElem?_eq_none h] at he; cases he
    have g1 : (l.map Prod.fst)[j]? = some e.1 := by rw [List.getElem?_map, List.getElem?_eq_getElem hj, ej, ← hz]; rfl
    have g2 : (l.map Prod.fst)[i]? = some e.1 := by rw [List.getElem?_map, he]; rfl
    have e3 := (List.getElem?_inj (by rw [List.length_map]; exact hj) nd).mp (g1.trans g2.symm)
    subst e3
    rw [List.getElem?_eq_getElem hj, ej] at he
    cases he
    rfl
def bothW (W : WebS) (S : List ((Str × Str) × Int)) : Prop := ∀ n m, getA S (n, m) = if (knotW W n m).isSome = true then some (tieW W n m) else none
theorem both_of {W : WebS} (hw : WOk W) {S : List ((Str × Str) × Int)} (h1 : ∀ (j : Nat) (e : (Str × Str) × Int), W.kn[j]? = some e → getA S e.1 = some e.2 ∧ getA S (e.1.2, e.1.1) = some e.2)
    (h2 : ∀ k, (getA S k).isSome = true → ∃ (j : Nat) (e : (Str × Str) × Int), W.kn[j]? = some e ∧ (k = e.1 ∨ k = (e.1.2, e.1.1))) : bothW W S := by
  intro n m
  cases hk : knotW W n m with
  | some k =>
    show _ = some (tieW W n m)
    obtain ⟨w, hw2⟩ := knotW_some (u := k.1) (v := k.2) hk
    obtain ⟨i, e, he, ee⟩ := getA_ex (l := W.kn) (k := k) (by rw [show k = (k.1, k.2) from rfl, hw2]; rfl)
    have hv := getA_val hw.nk he
    have et : tieW W n m = e.2 := by unfold tieW; rw [hk]; show (getA W.kn k).getD 0 = _; rw [← ee, hv]; rfl
    rw [et]
    obtain ⟨a1, a2⟩ := h1 i e he
    have hor : k = (n, m) ∨ k = (m, n) := by
      unfold knotW at hk
      split at hk
      · cases hk; exact .inl rfl
      · split at hk
        · cases hk; exact .inr rfl
        · cases hk
    rcases hor with h | h
    · rw [← h, ← ee]; exact a1
    · rw [h] at ee
      rw [ee] at a2
      exact a2
  | none =>
    show _ = none
    cases hs : getA S (n, m) with
    | none => rfl
    | some z =>
      obtain ⟨j, e, he, hor⟩ := h2 (n, m) (by rw [hs]; rfl)
      have hin := getA_mem he
      exfalso
      unfold knotW at hk
      rcases hor with h | h
      · rw [← h] at hin
        rw [if_pos hin] at hk
        cases hk
      · have h' : e.1 = (m, n) := by
          have e1 := congrArg Prod.fst h
          have e2 := congrArg Prod.snd h
          exact Prod.ext e2.symm e1.symm
        rw [h'] at hin
        by_cases c : (getA W.kn (n, m)).isSome = true
        · rw [if_pos c] at hk; cases hk
        · rw [if_neg c, if_pos hin] at hk; cases hk
theorem near_nodup {W : WebS} {n : Str} {l : List (Str × Int)} (nd : (l.map Prod.fst).Nodup) : ((nearA W n l).map Prod.fst).Nodup := by
  refine List.Sublist.nodup ?_ nd
  unfold nearA
  induction l with
  | nil => exact List.Sublist.refl _
  | cons e l ih =>
    rw [List.map_cons, List.nodup_cons] at nd
    by_cases c : 0 < tieW W n e.1
    · rw [List.filterMap_cons_some (by rw [if_pos c])]
      exact List.Sublist.cons_cons _ (ih nd.2)
    · rw [List.filterMap_cons_none (by rw [if_neg c])]
      exact List.Sublist.cons _ (ih nd.2)
theorem hvS {W : WebS} : (emb kS W.hv).map (fun kv => kV kv.1) = W.hv.map fun e => V.str e.1 := by
  unfold emb
  rw [List.map_map]
  rfl
theorem pure_l_shows {K a b H Q E} (h : P_l_shows K a b H Q E) : t_l_shows K E { nx := fun _ H' => Q .non H', rt := Q } [some a, some b, none, none, none, none, none, none, none, none] H := by
  obtain ⟨x, p, q, s, d0, d1, W, rfl, ek, hw, rfl, hs, wk, k⟩ := h
  obtain ⟨dx, ho⟩ := hw.o
  have n01 : d0 ≠ d1 := fun e => by have := hs.hv; rw [e, hs.kn] at this; cases this
  have ns1 : s ≠ d1 := fun e => by have := hs.s; rw [e, hs.kn] at this; cases this
  have dSok : ∀ d ∈ W.hv.map dS, d.canLay0 = true ∧ d.depth ≤ 60 := fun d hd => by
    obtain ⟨e, he, rfl⟩ := List.mem_map.mp hd
    exact ⟨wk.ok.1 e he, by show 0 ≤ 60; decide⟩
  ((try (conv => whnf)); repeat (first | (refine cndT rfl ?_; (try (conv => whnf))) | (refine cndF rfl ?_; (try (conv => whnf)))))
  refine ixLk hs.s (v := .ref d0) rfl ?_
  left
  refine ⟨d0, _, rfl, hs.hv, ?_⟩
  (intro r nr; generalize hG : _root_.L2.upd _ r _ = H1; have s1 := sameOf nr hG; have e1 := atOf hG; clear hG; ((try (conv => whnf)); repeat (first | (refine cndT rfl ?_; (try (conv => whnf))) | (refine cndF rfl ?_; (try (conv => whnf))))))
  rw [hvS] at e1
  have hw1 := hw.same s1
  have hs1 := hs.same s1
  refine ⟨x, dx, _, rfl, s1 _ _ ho, webF_n (by decide +kernel) (by decide +kernel), ?_⟩
  ((try (conv => whnf)); repeat (first | (refine cndT rfl ?_; (try (conv => whnf))) | (refine cndF rfl ?_; (try (conv => whnf)))))
  refine ⟨x, p, q, W, rfl, hw1, fun l H2 nl s2 e2 => ?_⟩
  ((try (conv => whnf)); repeat (first | (refine cndT rfl ?_; (try (conv => whnf))) | (refine cndF rfl ?_; (try (conv => whnf)))))
  have e1' := s2 _ _ e1
  refine neSame dSok (.lst (SqL.of e2) (dpAll fun e _ => .str _)) (.lst (SqL.of e1') (dpAll fun e _ => .str _)) ?_
  ((try (conv => whnf)); repeat (first | (refine cndT rfl ?_; (try (conv => whnf))) | (refine cndF rfl ?_; (try (conv => whnf)))))
  have s12 := s1.trans s2
  have hw2 := hw.same s12
  have hs2 := hs.same s12
  refine ⟨x, dx, _, rfl, s12 _ _ ho, webF_n (by decide +kernel) (by decide +kernel), ?_⟩
  ((try (conv => whnf)); repeat (first | (refine cndT rfl ?_; (try (conv => whnf))) | (refine cndF rfl ?_; (try (conv => whnf)))))
  refine ⟨x, p, q, W, rfl, hw2, wk.nh, wk.lh, wk.lk, wk.ends, fun l2 ts2 H3 nl2 s3 e3 p3 => ?_⟩
  ((try (conv => whnf)); repeat (first | (refine cndT rfl ?_; (try (conv => whnf))) | (refine cndF rfl ?_; (try (conv => whnf)))))
  have hs3 := hs2.same s3
  refine ⟨s, d0, d1, W, rfl, hs3, wk.nh, wk.lh, wk.lk, wk.ends, fun l4 ts4 H4 nl4 s4 e4 p4 => ?_⟩
  ((try (conv => whnf)); repeat (first | (refine cndT rfl ?_; (try (conv => whnf))) | (refine cndF rfl ?_; (try (conv => whnf)))))
  refine neSame (tieT_ok wk.ok) (.lst (SqL.of (s4 _ _ e3)) (dpAllP p3 fun t e ht => .tup (SqT.of (s4 _ _ ht)) (.cons (.str _) (.cons (.str _) (.cons (.int _) .nil))))) (.lst (SqL.of e4) (dpAllP p4 fun t e ht => .tup (SqT.of ht) (.cons (.str _) (.cons (.str _) (.cons (.int _) .nil))))) ?_
  ((try (conv => whnf)); repeat (first | (refine cndT rfl ?_; (try (conv => whnf))) | (refine cndF rfl ?_; (try (conv => whnf)))))
  have s14 := (s12.trans s3).trans s4
  have hw4 := hw.same s14
  have hs4 := hs.same s14
  refine ⟨x, dx, _, rfl, s14 _ _ ho, webF_n (by decide +kernel) (by decide +kernel), ?_⟩
  ((try (conv => whnf)); repeat (first | (refine cndT rfl ?_; (try (conv => whnf))) | (refine cndF rfl ?_; (try (conv => whnf)))))
  refine ⟨x, p, q, W, rfl, hw4, Nat.le_trans wk.lh (by decide), fun H5 s5 => ?_⟩
  have s15 := s14.trans s5
  have hw5 := hw.same s15
  have hs5 := hs.same s15
  ((try (conv => whnf)); repeat (first | (refine cndT rfl ?_; (try (conv => whnf))) | (refine cndF rfl ?_; (try (conv => whnf)))))
  refine ixLk hs5.s (v := .ref d0) rfl ?_
  refine ⟨d0, W.hv.map Prod.snd, rfl, .inl ⟨_, hs5.hv, emb_vals _ _⟩, ?_⟩
  ((try (conv => whnf)); repeat (first | (refine cndT rfl ?_; (try (conv => whnf))) | (refine cndF rfl ?_; (try (conv => whnf)))))
  refine cndF (by rw [decide_eq_true (show totalW W = (W.hv.map Prod.snd).sum from rfl)]; rfl) ?_
  ((try (conv => whnf)); repeat (first | (refine cndT rfl ?_; (try (conv => whnf))) | (refine cndF rfl ?_; (try (conv => whnf)))))
  refine ⟨x, dx, _, rfl, s15 _ _ ho, webF_n (by decide +kernel) (by decide +kernel), ?_⟩
  ((try (conv => whnf)); repeat (first | (refine cndT rfl ?_; (try (conv => whnf))) | (refine cndF rfl ?_; (try (conv => whnf)))))
  refine ⟨x, p, q, W, rfl, hw5, Nat.le_trans wk.lk (by decide), fun H6 s6 => ?_⟩
  have s16 := s15.trans s6
  have hw6 := hw.same s16
  have hs6 := hs.same s16
  ((try (conv => whnf)); repeat (first | (refine cndT rfl ?_; (try (conv => whnf))) | (refine cndF rfl ?_; (try (conv => whnf)))))
  refine ixLk hs6.s (v := .ref d1) rfl ?_
  refine ⟨d1, W.kn.map Prod.snd, rfl, .inr ⟨_, hs6.kn, emb_vals _ _⟩, ?_⟩
  ((try (conv => whnf)); repeat (first | (refine cndT rfl ?_; (try (conv => whnf))) | (refine cndF rfl ?_; (try (conv => whnf)))))
  refine cndF (by rw [decide_eq_true (show forceW W = (W.kn.map Prod.snd).sum from rfl)]; rfl) ?_
  ((try (conv => whnf)); repeat (first | (refine cndT rfl ?_; (try (conv => whnf))) | (refine cndF rfl ?_; (try (conv => whnf)))))
  right
  (intro sd nsd; generalize hG : _root_.L2.upd _ sd _ = H7; have s7 := sameOf nsd hG; have e7 := atOf hG; clear hG; ((try (conv => whnf)); repeat (first | (refine cndT rfl ?_; (try (conv => whnf))) | (refine cndF rfl ?_; (try (conv => whnf))))))
  have s17 := s16.trans s7
  have hw7 := hw.same s17
  have hs7 := hs.same s17
  have er7 : H7 r = some (.lst (W.hv.map fun e => V.str e.1)) := s7 _ _ (s6 _ _ (s5 _ _ (s4 _ _ (s3 _ _ e1'))))
  have nsd1 : d1 ≠ sd := ne_of_none hs6.kn nsd
  refine ⟨d1, _, hs7.kn, trivial, fun od => ?_⟩
  (generalize hG : _root_.L2.upd _ d1 _ = HM; have bM := butOf hG; have eM := atOf hG; clear hG; ((try (conv => whnf)); repeat (first | (refine cndT rfl ?_; (try (conv => whnf))) | (refine cndF rfl ?_; (try (conv => whnf))))))
  refine ixLk (bM.at hs7.s ns1) (v := .ref d1) rfl ?_
  ((try (conv => whnf)); repeat (first | (refine cndT rfl ?_; (try (conv => whnf))) | (refine cndF rfl ?_; (try (conv => whnf)))))
  refine ⟨d1, od, rfl, .inr ⟨_, eM, ?_⟩⟩
  refine forIt walk_itemsT (fun i σ H' => Kx [sd] HM H' ∧ (∃ S, H' sd = some (.dT (emb kP S)) ∧ S.length ≤ 2 * i ∧ (∀ (j : Nat) (e : (Str × Str) × Int), W.kn[j]? = some e → j < i → getA S e.1 = some e.2 ∧ getA S (e.1.2, e.1.1) = some e.2) ∧
    ∀ k, (getA S k).isSome = true → ∃ (j : Nat) (e : (Str × Str) × Int), W.kn[j]? = some e ∧ (k = e.1 ∨ k = (e.1.2, e.1.1))) ∧ ∃ v5 v6 : Option V, σ = [some (.ref x), some (.ref s), some (.ref r), some (.ref sd), none, v5, v6, none, none, none])
    ⟨Kx.refl, ⟨[], bM.at e7 nsd1.symm, Nat.le_refl _, fun j e _ h => absurd h (Nat.not_lt_zero _), fun k hk => by cases hk⟩, _, _, rfl⟩ ?_ ?_ ?_
  · rintro i σ H' _ ⟨kx, _⟩
    exact kx d1 _ (by simp [nsd1]) eM
  · rintro i y σ H8 H9 hi ⟨kx, ⟨S, hS, hSl, hS1, hS2⟩, v5, v6, rfl⟩ ⟨T, k', v', kq, hk', hkq, rfl, nT, e9⟩
    have s9 := sameOf nT e9.symm
    have eT := atOf e9.symm
    clear e9
    obtain ⟨e, he, e1'', e2''⟩ : ∃ e, W.kn[i]? = some e ∧ k' = kP e.1 ∧ v' = .int e.2 := by
      unfold emb at hk'
      rw [List.getElem?_map] at hk'
      obtain ⟨e, he, ee⟩ := Option.map_eq_some_iff.mp hk'
      cases ee
      exact ⟨e, he, rfl, rfl⟩
    subst e1'' e2''
    have hi' : i < 200 := by rw [emb_len] at hi; have := wk.lk; omega
    have hkq9 : H9 kq = some (.tup [.str e.1.1, .str e.1.2]) := s9 _ _ hkq
    have nkq : kq ≠ sd := fun c => by rw [c, hS] at hkq; cases hkq
    ((try (conv => whnf)); repeat (first | (refine cndT rfl ?_; (try (conv => whnf))) | (refine cndF rfl ?_; (try (conv => whnf)))))
    refine ⟨T, _, rfl, SqT.of eT, rfl, _, _, rfl, _, _, rfl, rfl, ?_⟩
    ((try (conv => whnf)); repeat (first | (refine cndT rfl ?_; (try (conv => whnf))) | (refine cndF rfl ?_; (try (conv => whnf)))))
    refine setD rfl (DPut.t (k := kP e.1) (s9 _ _ hS) hkq9 (by rw [emb_len, sizeLine_eq]; omega)) ?_
    (generalize hG : _root_.L2.upd _ sd _ = Ha; have ba := butOf hG; have ea := atOf hG; clear hG; ((try (conv => whnf)); repeat (first | (refine cndT rfl ?_; (try (conv => whnf))) | (refine cndF rfl ?_; (try (conv => whnf))))))
    rw [emb_put kP_inj] at ea
    have hkqa := ba.at hkq9 nkq
    refine ixTk hkqa (v := .str e.1.2) rfl ?_
    refine ixTk hkqa (v := .str e.1.1) rfl ?_
    ((try (conv => whnf)); repeat (first | (refine cndT rfl ?_; (try (conv => whnf))) | (refine cndF rfl ?_; (try (conv => whnf)))))
    refine ⟨by show 2 ≤ sizeLine; decide, ?_⟩
    (intro t nt; generalize hG : _root_.L2.upd _ t _ = Hb; have sb := sameOf nt hG; have eb := atOf hG; clear hG; ((try (conv => whnf)); repeat (first | (refine cndT rfl ?_; (try (conv => whnf))) | (refine cndF rfl ?_; (try (conv => whnf))))))
    have hl1 := putA_len S e.1 e.2
    refine setD rfl (DPut.t (k := kP (e.1.2, e.1.1)) (sb _ _ ea) eb (by rw [emb_len, sizeLine_eq]; omega)) ?_
    (generalize hG : _root_.L2.upd _ sd _ = Hc; have bc := butOf hG; have ec := atOf hG; clear hG; ((try (conv => whnf)); repeat (first | (refine cndT rfl ?_; (try (conv => whnf))) | (refine cndF rfl ?_; (try (conv => whnf))))))
    rw [emb_put kP_inj] at ec
    refine ⟨(((kx.trans (.same s9)).trans (.but ba (by simp))).trans (.same sb)).trans (.but bc (by simp)), ⟨_, ec, ?_, fun j e' he' hj => ?_, fun k hk => ?_⟩, _, _, rfl⟩
    · have := putA_len (putA S e.1 e.2) (e.1.2, e.1.1) e.2
      omega
    · rw [getA_put, getA_put, getA_put, getA_put]
      have hne := wk.ne e (List.mem_of_getElem? he)
      by_cases c : j = i
      · subst c
        rw [he] at he'
        cases he'
        have c1 : ¬ e.1 = (e.1.2, e.1.1) := fun z => hne (congrArg Prod.fst z)
        rw [if_neg c1, if_pos rfl, if_pos rfl]
        exact ⟨rfl, rfl⟩
      · obtain ⟨a1, a2⟩ := hS1 j e' he' (by omega)
        have n1 : e'.1 ≠ e.1 := fun z => c (by
          have hjl : j < W.kn.length := by
            rcases Nat.lt_or_ge j W.kn.length with h | h
            · exact h
            · rw [List.getElem?_eq_none h] at he'; cases he'
          exact (List.getElem?_inj (by rw [List.length_map]; exact hjl) wk.nk).mp (by rw [List.getElem?_map, List.getElem?_map, he, he']; exact congrArg some z))
        have n2 : e'.1 ≠ (e.1.2, e.1.1) := fun z => by
          have h1 := getA_mem he
          have h2 := getA_mem he'
          rw [z] at h2
          exact wk.ne e (List.mem_of_getElem? he) (wk.ow e.1.1 e.1.2 h1 h2)
        have n3 : (e'.1.2, e'.1.1) ≠ e.1 := fun z => n2 (by rw [← z])
        have n4 : (e'.1.2, e'.1.1) ≠ (e.1.2, e.1.1) := fun z => n1 (by
          have z1 := congrArg Prod.fst z
          have z2 := congrArg Prod.snd z
          exact Prod.ext z2 z1)
        rw [if_neg n2, if_neg n1, if_neg n4, if_neg n3]
        exact ⟨a1, a2⟩
    · rw [getA_put, getA_put] at hk
      by_cases c1 : k = (e.1.2, e.1.1)
      · exact ⟨i, e, he, .inr c1⟩
      · rw [if_neg c1] at hk
        by_cases c2 : k = e.1
        · exact ⟨i, e, he, .inl c2⟩
        · rw [if_neg c2] at hk
          exact hS2 k hk
  · rintro σ H8 ⟨kx, ⟨S, hS, hSl, hS1, hS2⟩, v5, v6, rfl⟩
    refine ⟨kx d1 _ (by simp [nsd1]) eM, ?_⟩
    generalize hG : L2.upd _ d1 _ = G
    have kG : Kx [sd] H7 G := unlockK hs7.kn bM kx hG
    have hGs : G sd = some (.dT (emb kP S)) := by rw [← hG, upd_ne nsd1.symm, hS]
    clear hG
    have hb : bothW W S := both_of wk (fun j e he => hS1 j e he (by
      rw [emb_len]
      rcases Nat.lt_or_ge j W.kn.length with h | h
      · exact h
      · rw [List.getElem?_eq_none h] at he; cases he)) hS2
    have sG6 : Same H6 G := fun b o e => kG b o (fun z => ne_n (some_ne e) nsd (by simpa using z)) (s7 _ _ e)
    have sG := s16.trans sG6
    have hrG : G r = some (.lst (W.hv.map fun e => V.str e.1)) := sG6 _ _ (s6 _ _ (s5 _ _ (s4 _ _ (s3 _ _ e1'))))
    left
    ((try (conv => whnf)); repeat (first | (refine cndT rfl ?_; (try (conv => whnf))) | (refine cndF rfl ?_; (try (conv => whnf)))))
    refine .inl ⟨_, SqL.of hrG, ?_⟩
    refine forL (SqL.of hrG) (fun i σ H' => Same G H' ∧ ∃ v4 v5 v6 v7 v8 v9 : Option V, σ = [some (.ref x), some (.ref s), some (.ref r), some (.ref sd), v4, v5, v6, v7, v8, v9]) ⟨Same.refl _, _, _, _, _, _, _, rfl⟩ ?_ ?_ ?_
    · rintro i σ H' _ ⟨sx, _⟩
      exact SqL.of (sx _ _ hrG)
    · rintro i y σ Ha hy ⟨sx, v4, v5, v6, v7, v8, v9, rfl⟩
      rw [List.getElem?_map] at hy
      obtain ⟨e, he, rfl⟩ := Option.map_eq_some_iff.mp hy
      have hpl := isPl_of he
      have hok := wk.ok.1 e (List.mem_of_getElem? he)
      have sA := sG.trans sx
      have hwA := hw.same sA
      ((try (conv => whnf)); repeat (first | (refine cndT rfl ?_; (try (conv => whnf))) | (refine cndF rfl ?_; (try (conv => whnf)))))
      refine ⟨x, dx, _, rfl, sA _ _ ho, webF_n (by decide +kernel) (by decide +kernel), ?_⟩
      ((try (conv => whnf)); repeat (first | (refine cndT rfl ?_; (try (conv => whnf))) | (refine cndF rfl ?_; (try (conv => whnf)))))
      refine ⟨x, p, q, W, "str", rfl, ek, hwA, rfl, wk.nh, wk.lh, fun r hr => (nomatch ((placeO_str hpl).symm.trans hr : (none : RefO) = some r)), fun n' en _ f Hb nf sb ef => ?_⟩
      cases en
      have sB := sA.trans sb
      have hrB := sb _ _ (sx _ _ hrG)
      have hSB := sb _ _ (sx _ _ hGs)
      ((try (conv => whnf)); repeat (first | (refine cndT rfl ?_; (try (conv => whnf))) | (refine cndF rfl ?_; (try (conv => whnf)))))
      left
      refine .inl ⟨_, SqL.of hrB, ?_⟩
      have nacc : ∀ j, (nearA W e.1 (W.hv.take j)).length ≤ 60 := fun j => by
        have h1 := List.length_filterMap_le (fun e2 : Str × Int => if 0 < tieW W e.1 e2.1 then some (e2.1, tieW W e.1 e2.1) else none) (W.hv.take j)
        rw [List.length_take] at h1
        have := wk.lh
        unfold nearA
        omega
      have nstep : ∀ (j : Nat) (z : Str × Int), W.hv[j]? = some z → nearA W e.1 (W.hv.take (j + 1)) = nearA W e.1 (W.hv.take j) ++ (if 0 < tieW W e.1 z.1 then [(z.1, tieW W e.1 z.1)] else []) := fun j z hz => by
        unfold nearA
        rw [List.take_add_one, hz, List.filterMap_append]
        congr 1
        show List.filterMap _ [z] = _
        by_cases c : 0 < tieW W e.1 z.1
        · simp [c]
        · simp [c]
      -- a tie is there just where it is strong
      have tied : ∀ z : Str, (knotW W e.1 z).isSome = decide (0 < tieW W e.1 z) := fun z => by
        unfold tieW
        cases hk : knotW W e.1 z with
        | none => rfl
        | some kk =>
          obtain ⟨w, hw2⟩ := knotW_some (u := kk.1) (v := kk.2) hk
          obtain ⟨j, e3, he3, ee3⟩ := getA_ex (l := W.kn) (k := kk) (by rw [show kk = (kk.1, kk.2) from rfl, hw2]; rfl)
          have hv3 := getA_val wk.nk he3
          have hp3 := wk.pos e3 (List.mem_of_getElem? he3)
          show true = decide (0 < (getA W.kn kk).getD 0)
          rw [← ee3, hv3]
          exact (decide_eq_true (show 0 < e3.2 by omega)).symm
      refine lcObj walk_list (fun z : Str × Int => HO.tup [.str z.1, .int z.2]) (fun z xs c => by cases c) (fun j => nearA W e.1 (W.hv.take j)) rfl (fun j hj => by have := nacc j; rw [sizeLine_eq]; omega) (fun H s => SqL.of (s _ _ hrB)) (fun j y2 Hc Hd hj sc yy R R' hR hR' => ?_) (fun D ts Hc hD sc hP => ?_)
      · obtain ⟨rfl, hy2⟩ := yy
        rw [List.getElem?_map] at hy2
        obtain ⟨z, hz, rfl⟩ := Option.map_eq_some_iff.mp hy2
        have hst := nstep j z hz
        have bz := hb e.1 z.1
        refine ⟨rfl, ?_⟩
        ((try (conv => whnf)); repeat (first | (refine cndT rfl ?_; (try (conv => whnf))) | (refine cndF rfl ?_; (try (conv => whnf)))))
        refine ⟨by show 2 ≤ sizeLine; decide, ?_⟩
        (intro t nt; generalize hG : _root_.L2.upd _ t _ = He; have se := sameOf nt hG; have ee := atOf hG; clear hG; ((try (conv => whnf)); repeat (first | (refine cndT rfl ?_; (try (conv => whnf))) | (refine cndF rfl ?_; (try (conv => whnf))))))
        have g := DGet.t (k := kP (e.1, z.1)) (se _ _ (sc _ _ hSB)) ee
        rw [emb_val kP_inj] at g
        refine .inr ⟨sd, _, rfl, g, ?_⟩
        rw [some_int]
        by_cases c : 0 < tieW W e.1 z.1
        · have ht : (knotW W e.1 z.1).isSome = true := by rw [tied, decide_eq_true c]
          rw [if_pos ht] at bz
          rw [if_pos c] at hst
          rw [show (getA S (e.1, z.1)).isSome = true by rw [bz]; rfl]
          ((try (conv => whnf)); repeat (first | (refine cndT rfl ?_; (try (conv => whnf))) | (refine cndF rfl ?_; (try (conv => whnf)))))
          refine ⟨by show 2 ≤ sizeLine; decide, ?_⟩
          (intro t2 nt2; generalize hG : _root_.L2.upd _ t2 _ = Hf; have sf := sameOf nt2 hG; have ef2 := atOf hG; clear hG; ((try (conv => whnf)); repeat (first | (refine cndT rfl ?_; (try (conv => whnf))) | (refine cndF rfl ?_; (try (conv => whnf))))))
          have g2 := DGet.t (k := kP (e.1, z.1)) (sf _ _ (se _ _ (sc _ _ hSB))) ef2
          rw [emb_val kP_inj, bz] at g2
          refine ixD g2 ?_
          ((try (conv => whnf)); repeat (first | (refine cndT rfl ?_; (try (conv => whnf))) | (refine cndF rfl ?_; (try (conv => whnf)))))
          refine ⟨by show 2 ≤ sizeLine; decide, ?_⟩
          (intro t3 nt3; generalize hG : _root_.L2.upd _ t3 _ = Hg; have sg := sameOf nt3 hG; have eg := atOf hG; clear hG; ((try (conv => whnf)); repeat (first | (refine cndT rfl ?_; (try (conv => whnf))) | (refine cndF rfl ?_; (try (conv => whnf))))))
          exact hR t3 (z.1, tieW W e.1 z.1) Hg ((se.trans sf).trans sg) eg hst
        · have ht : ¬ (knotW W e.1 z.1).isSome = true := by rw [tied, decide_eq_false c]; simp
          rw [if_neg ht] at bz
          rw [if_neg c, List.append_nil] at hst
          rw [show (getA S (e.1, z.1)).isSome = false by rw [bz]; rfl]
          ((try (conv => whnf)); repeat (first | (refine cndT rfl ?_; (try (conv => whnf))) | (refine cndF rfl ?_; (try (conv => whnf)))))
          exact hR' He se hst
      · rw [List.length_map, List.take_of_length_le (Nat.le_refl _)] at hP
        have sC := sB.trans sc
        have hwC := hw.same sC
        have hsC := hs.same sC
        obtain ⟨w0, hw0⟩ := Option.isSome_iff_exists.mp (show (getA W.hv e.1).isSome = true from hpl)
        ((try (conv => whnf)); repeat (first | (refine cndT rfl ?_; (try (conv => whnf))) | (refine cndF rfl ?_; (try (conv => whnf)))))
        refine ⟨x, dx, _, rfl, sC _ _ ho, webF_n (by decide +kernel) (by decide +kernel), ?_⟩
        ((try (conv => whnf)); repeat (first | (refine cndT rfl ?_; (try (conv => whnf))) | (refine cndF rfl ?_; (try (conv => whnf)))))
        refine ⟨x, p, q, W, "str", rfl, ek, hwC.r, rfl, fun r hr => (nomatch ((placeO_str hpl).symm.trans hr : (none : RefO) = some r)), fun n' w' en hg => ?_⟩
        cases en
        rw [hw0] at hg
        cases hg
        ((try (conv => whnf)); repeat (first | (refine cndT rfl ?_; (try (conv => whnf))) | (refine cndF rfl ?_; (try (conv => whnf)))))
        refine ixLk hsC.s (v := .ref d0) rfl ?_
        have g3 := DGet.k (k := kS e.1) hsC.hv
        rw [emb_val kS_inj, hw0] at g3
        refine ixD g3 ?_
        ((try (conv => whnf)); repeat (first | (refine cndT rfl ?_; (try (conv => whnf))) | (refine cndF rfl ?_; (try (conv => whnf)))))
        refine cndF (by rw [decide_eq_true rfl]; rfl) ?_
        ((try (conv => whnf)); repeat (first | (refine cndT rfl ?_; (try (conv => whnf))) | (refine cndF rfl ?_; (try (conv => whnf)))))
        right
        ((try (conv => whnf)); repeat (first | (refine cndT rfl ?_; (try (conv => whnf))) | (refine cndF rfl ?_; (try (conv => whnf)))))
        have efC := sc _ _ ef
        refine ⟨f, _, efC, trivial, fun od3 => ?_⟩
        (generalize hG : _root_.L2.upd _ f _ = HL; have bL := butOf hG; have eL := atOf hG; clear hG; ((try (conv => whnf)); repeat (first | (refine cndT rfl ?_; (try (conv => whnf))) | (refine cndF rfl ?_; (try (conv => whnf))))))
        refine ⟨f, od3, rfl, .inl ⟨_, eL, ?_⟩⟩
        refine lcObj walk_keys (fun z : Str × Int => HO.tup [.str z.1, .int z.2]) (fun z xs c => by cases c) (fun j => (nearA W e.1 W.hv).take j) rfl (fun j hj => ?_) (fun H s => s _ _ eL) (fun j y2 Hd He hj sd2 yy R R' hR hR' => ?_) (fun D2 ts2 Hd hD2 sd2 hP2 => ?_)
        · have := nacc 1000
          rw [List.take_of_length_le (by have := wk.lh; omega)] at this
          rw [List.length_take, sizeLine_eq]; omega
        · obtain ⟨rfl, k', v', hk', rfl⟩ := yy
          obtain ⟨z, hz, z1, z2⟩ : ∃ z, (nearA W e.1 W.hv)[j]? = some z ∧ k' = kS z.1 ∧ v' = .int z.2 := by
            unfold emb at hk'
            rw [List.getElem?_map] at hk'
            obtain ⟨z, hz, ee⟩ := Option.map_eq_some_iff.mp hk'
            cases ee
            exact ⟨z, hz, rfl, rfl⟩
          subst z1 z2
          refine ⟨rfl, ?_⟩
          ((try (conv => whnf)); repeat (first | (refine cndT rfl ?_; (try (conv => whnf))) | (refine cndF rfl ?_; (try (conv => whnf)))))
          have ndn : ((nearA W e.1 W.hv).map Prod.fst).Nodup := near_nodup wk.nh
          have g4 : DGet He f (.str z.1) ((getA (nearA W e.1 W.hv) z.1).map V.int) := by
            rw [← emb_val kS_inj]
            exact .inl ⟨_, kS z.1, .inr ⟨od3, sd2 _ _ eL⟩, rfl, rfl⟩
          rw [getA_val ndn hz] at g4
          refine ixD g4 ?_
          ((try (conv => whnf)); repeat (first | (refine cndT rfl ?_; (try (conv => whnf))) | (refine cndF rfl ?_; (try (conv => whnf)))))
          refine ⟨by show 2 ≤ sizeLine; decide, ?_⟩
          (intro t3 nt3; generalize hG : _root_.L2.upd _ t3 _ = Hg; have sg := sameOf nt3 hG; have eg := atOf hG; clear hG; ((try (conv => whnf)); repeat (first | (refine cndT rfl ?_; (try (conv => whnf))) | (refine cndF rfl ?_; (try (conv => whnf))))))
          refine hR t3 z Hg sg eg ?_
          rw [List.take_add_one, hz]
          rfl
        · rw [emb_len, List.take_of_length_le (Nat.le_refl _)] at hP2
          refine ⟨sd2 _ _ eL, ?_⟩
          generalize hG2 : L2.upd _ f _ = G2
          have sG2 : Same Hc G2 := unlock efC bL sd2 hG2
          have nD2 : D2 ≠ f := fun c => by rw [c, sd2 _ _ eL] at hD2; cases hD2
          have hD2' : G2 D2 = some (.lst (ts2.map V.ref)) := by rw [← hG2, upd_ne nD2, hD2]
          have hP2' : Paired (fun t z => G2 t = some (HO.tup [V.str z.1, V.int z.2])) ts2 (nearA W e.1 W.hv) := Paired.mapP hP2 fun t z htz => by
            have : t ≠ f := fun c => by rw [c, sd2 _ _ eL] at htz; cases htz
            show G2 t = _
            rw [← hG2, upd_ne this]
            exact htz
          clear hG2
          have sH := sC.trans sG2
          have hwH := hw.same sH
          have hdP : ∀ d ∈ (nearA W e.1 W.hv).map dP2, d.canLay0 = true ∧ d.depth ≤ 60 := fun d hd => by
            obtain ⟨z, hz, rfl⟩ := List.mem_map.mp hd
            unfold nearA at hz
            obtain ⟨z2, hz2, hz3⟩ := List.mem_filterMap.mp hz
            by_cases c : 0 < tieW W e.1 z2.1
            · rw [if_pos c] at hz3
              cases hz3
              exact dP2_ok (e := (z2.1, tieW W e.1 z2.1)) (wk.ok.1 z2 hz2)
            · rw [if_neg c] at hz3
              cases hz3
          ((try (conv => whnf)); repeat (first | (refine cndT rfl ?_; (try (conv => whnf))) | (refine cndF rfl ?_; (try (conv => whnf)))))
          refine neSame hdP (.lst (SqL.of hD2') (dpAllP hP2' fun t z ht => .tup (SqT.of ht) (.cons (.str _) (.cons (.int _) .nil)))) (.lst (SqL.of (sG2 _ _ hD)) (dpAllP hP fun t z ht => .tup (SqT.of (sG2 _ _ ht)) (.cons (.str _) (.cons (.int _) .nil)))) ?_
          ((try (conv => whnf)); repeat (first | (refine cndT rfl ?_; (try (conv => whnf))) | (refine cndF rfl ?_; (try (conv => whnf)))))
          left
          have hrH := sG2 _ _ (sc _ _ hrB)
          have hSH := sG2 _ _ (sc _ _ hSB)
          ((try (conv => whnf)); repeat (first | (refine cndT rfl ?_; (try (conv => whnf))) | (refine cndF rfl ?_; (try (conv => whnf)))))
          refine .inl ⟨_, SqL.of hrH, ?_⟩
          refine forL (SqL.of hrH) (fun i σ H' => Same G2 H' ∧ ∃ v4 v5 v6 v7 v8 v9 : Option V, σ = [some (.ref x), some (.ref s), some (.ref r), some (.ref sd), some (.str e.1), v5, v6, v7, v8, v9]) ⟨Same.refl _, some (.str e.1), _, _, _, _, _, rfl⟩ ?_ ?_ ?_
          · rintro i σ H' _ ⟨sx, _⟩
            exact SqL.of (sx _ _ hrH)
          · rintro i y σ Hi hy ⟨si, v4, v5, v6, v7, v8, v9, rfl⟩
            rw [List.getElem?_map] at hy
            obtain ⟨z, hz, rfl⟩ := Option.map_eq_some_iff.mp hy
            have sI := sH.trans si
            have hwI := hw.same sI
            have bz := hb e.1 z.1
            ((try (conv => whnf)); repeat (first | (refine cndT rfl ?_; (try (conv => whnf))) | (refine cndF rfl ?_; (try (conv => whnf)))))
            refine ⟨x, dx, _, rfl, sI _ _ ho, webF_n (by decide +kernel) (by decide +kernel), ?_⟩
            ((try (conv => whnf)); repeat (first | (refine cndT rfl ?_; (try (conv => whnf))) | (refine cndF rfl ?_; (try (conv => whnf)))))
            refine ⟨x, p, q, W, "str", "str", rfl, ek, hwI.r, rfl, rfl, fun r hr => ?_, fun n' m' en em _ Hj sj => ?_⟩
            · unfold bothO at hr
              rw [placeO_str hpl] at hr
              exact (nomatch ((placeO_str (isPl_of hz)).symm.trans hr : (none : RefO) = some r))
            cases en
            cases em
            ((try (conv => whnf)); repeat (first | (refine cndT rfl ?_; (try (conv => whnf))) | (refine cndF rfl ?_; (try (conv => whnf)))))
            refine ⟨.inr (.inr (.inl ⟨rfl, .inr ⟨_, sj _ _ (si _ _ hSH)⟩⟩)), ?_⟩
            ((try (conv => whnf)); repeat (first | (refine cndT rfl ?_; (try (conv => whnf))) | (refine cndF rfl ?_; (try (conv => whnf)))))
            refine ⟨by show 2 ≤ sizeLine; decide, ?_⟩
            (intro t nt; generalize hG : _root_.L2.upd _ t _ = Hk; have sk := sameOf nt hG; have ek := atOf hG; clear hG; ((try (conv => whnf)); repeat (first | (refine cndT rfl ?_; (try (conv => whnf))) | (refine cndF rfl ?_; (try (conv => whnf))))))
            have g := DGet.t (k := kP (e.1, z.1)) (sk _ _ (sj _ _ (si _ _ hSH))) ek
            rw [emb_val kP_inj] at g
            refine ⟨sd, _, rfl, g, ?_⟩
            have ev : (((getA S (e.1, z.1)).map V.int).getD (V.int 0)) = V.int (tieW W e.1 z.1) := by
              rw [bz]
              by_cases c : (knotW W e.1 z.1).isSome = true
              · rw [if_pos c]; rfl
              · rw [if_neg c]
                show V.int 0 = _
                unfold tieW
                cases hk : knotW W e.1 z.1 with
                | none => rfl
                | some kk => rw [hk] at c; exact absurd rfl c
            rw [ev]
            ((try (conv => whnf)); repeat (first | (refine cndT rfl ?_; (try (conv => whnf))) | (refine cndF rfl ?_; (try (conv => whnf)))))
            refine cndF (by rw [decide_eq_true rfl]; rfl) ?_
            ((try (conv => whnf)); repeat (first | (refine cndT rfl ?_; (try (conv => whnf))) | (refine cndF rfl ?_; (try (conv => whnf)))))
            exact ⟨(si.trans sj).trans sk, some (.str e.1), _, _, _, _, _, rfl⟩
          · rintro σ Hi ⟨si, v4, v5, v6, v7, v8, v9, rfl⟩
            exact ⟨(((sx.trans sb).trans sc).trans sG2).trans si, _, _, _, _, _, _, rfl⟩
    · rintro σ Ha ⟨sx, v4, v5, v6, v7, v8, v9, rfl⟩
      ((try (conv => whnf)); repeat (first | (refine cndT rfl ?_; (try (conv => whnf))) | (refine cndF rfl ?_; (try (conv => whnf)))))
      exact k Ha (sG.trans sx)

end Wk12
namespace Wk12
open PySem L2 PySem.Spec PyProof.Rows Rf
theorem pure_l_row {K a b H Q E} (h : P_l_row K a b H Q E) : t_l_row K E { nx := fun _ H' => Q .non H', rt := Q } [some a, some b, none, none, none, none, none] H := by
  obtain ⟨p, c, ms, rfl, rfl, hS, hl, hm, k⟩ := h
  ((try (conv => whnf)); repeat (first | (refine cndT rfl ?_; (try (conv => whnf))) | (refine cndF rfl ?_; (try (conv => whnf)))))
  refine ⟨by show 0 ≤ sizeLine; decide, ?_⟩
  (intro l nl; generalize hG : _root_.L2.upd _ l _ = H1; have s1 := sameOf nl hG; have e1 := atOf hG; clear hG; ((try (conv => whnf)); repeat (first | (refine cndT rfl ?_; (try (conv => whnf))) | (refine cndF rfl ?_; (try (conv => whnf))))))
  refine ⟨⟨by decide, by decide, by decide⟩, ?_⟩
  ((try (conv => whnf)); repeat (first | (refine cndT rfl ?_; (try (conv => whnf))) | (refine cndF rfl ?_; (try (conv => whnf)))))
  refine ⟨by decide, ?_⟩
  have hS1 := s1.seq hS
  left
  refine ⟨_, hS1, ?_⟩
  ((try (conv => whnf)); repeat (first | (refine cndT rfl ?_; (try (conv => whnf))) | (refine cndF rfl ?_; (try (conv => whnf)))))
  refine ⟨_, rfl, by omega, by rw [List.length_map]; omega, ?_⟩
  refine forR (fun i σ H' => Kp0 l H1 H' ∧ (∃ xs : List Int, H' l = some (.lst (xs.map V.int)) ∧ xs.length = i ∧ ∀ (j : Nat) (x m : Int), xs[j]? = some x → ms[j]? = some m → 0 ≤ x ∧ x < m) ∧
    ∃ (lf nm : Int) (v5 v6 : Option V), 0 ≤ nm ∧ nm < 2147483647 ∧ σ = [some (.int c), some (.ref p), some (.ref l), some (.int lf), some (.int nm), v5, v6]) ⟨Kp0.refl, ⟨[], e1, rfl, fun j x m h => by simp at h⟩, _, _, _, _, Int.emod_nonneg _ (by decide), Int.emod_lt_of_pos _ (by decide), rfl⟩ ?_ ?_
  · rintro i σ H2 hi ⟨kx, ⟨xs, hxs, hxl, hxr⟩, lf, nm, v5, v6, m0, m1, rfl⟩
    have hi' : i < ms.length := by simpa using hi
    obtain ⟨m, hmi⟩ : ∃ m, ms[i]? = some m := ⟨ms[i], List.getElem?_eq_getElem hi'⟩
    obtain ⟨q1, q2⟩ := hm m (List.mem_of_getElem? hmi)
    have hat : atI (ms.map V.int) (0 + i) = some (.int m) := by
      rw [Int.zero_add]
      exact atI_nat (by rw [List.getElem?_map, hmi]; rfl)
    have hS2 : SqL K H2 p (ms.map V.int) := seqK hS nl s1 kx
    have hxl' : xs.length < sizeLine := by rw [sizeLine_eq]; omega
    have fin : ∀ (x : Int) (H3 : Hp), 0 ≤ x → x < m → L2.upd H2 l (.lst (xs.map V.int ++ [.int x])) = H3 → Kp0 l H1 H3 ∧ ∃ xs' : List Int, H3 l = some (.lst (xs'.map V.int)) ∧ xs'.length = i + 1 ∧ ∀ (j : Nat) (x m : Int), xs'[j]? = some x → ms[j]? = some m → 0 ≤ x ∧ x < m := by
      rintro x H3 x0 x1 rfl
      refine ⟨kx.trans (Kp0.but But.upd), xs ++ [x], by rw [upd_same, List.map_append]; rfl, by rw [List.length_append, hxl]; rfl, fun j x' m' hj hm' => ?_⟩
      by_cases c : j < xs.length
      · rw [List.getElem?_append_left c] at hj
        exact hxr j x' m' hj hm'
      · rw [List.getElem?_append_right (by omega)] at hj
        have : j = i := by
          rcases Nat.lt_or_ge (j - xs.length) 1 with h | h
          · omega
          · rw [List.getElem?_eq_none (by simpa using h)] at hj; cases hj
        subst this
        rw [hmi] at hm'
        cases hm'
        rw [show j - xs.length = 0 by omega] at hj
        cases hj
        exact ⟨x0, x1⟩
    ((try (conv => whnf)); repeat (first | (refine cndT rfl ?_; (try (conv => whnf))) | (refine cndF rfl ?_; (try (conv => whnf)))))
    (refine cndB (fun c1 => ?_) (fun c1 => ?_) <;> (try simp only [Bool.not_eq_eq_eq_not, Bool.not_true, Bool.not_false, decide_eq_true_eq, decide_eq_false_iff_not, Int.not_le, Int.not_lt] at c1) <;> ((try (conv => whnf)); repeat (first | (refine cndT rfl ?_; (try (conv => whnf))) | (refine cndF rfl ?_; (try (conv => whnf))))))
    · refine ⟨.inl ⟨rfl, _, SqL.of hxs⟩, ?_⟩
      ((try (conv => whnf)); repeat (first | (refine cndT rfl ?_; (try (conv => whnf))) | (refine cndF rfl ?_; (try (conv => whnf)))))
      refine ixL hS2 hat ?_
      ((try (conv => whnf)); repeat (first | (refine cndT rfl ?_; (try (conv => whnf))) | (refine cndF rfl ?_; (try (conv => whnf)))))
      refine ⟨by omega, ?_⟩
      ((try (conv => whnf)); repeat (first | (refine cndT rfl ?_; (try (conv => whnf))) | (refine cndF rfl ?_; (try (conv => whnf)))))
      refine ⟨l, _, _, rfl, rfl, hxs, by rw [List.length_map]; exact hxl', ?_⟩
      generalize hG : L2.upd _ l _ = H3
      obtain ⟨a1, a2⟩ := fin _ H3 (Int.emod_nonneg _ (by omega)) (Int.emod_lt_of_pos _ (by omega)) hG
      ((try (conv => whnf)); repeat (first | (refine cndT rfl ?_; (try (conv => whnf))) | (refine cndF rfl ?_; (try (conv => whnf)))))
      refine ixL (seqK hS nl s1 a1) hat ?_
      ((try (conv => whnf)); repeat (first | (refine cndT rfl ?_; (try (conv => whnf))) | (refine cndF rfl ?_; (try (conv => whnf)))))
      refine ⟨divS (by omega) (by omega), ?_⟩
      exact ⟨a1, a2, _, _, _, _, m0, m1, rfl⟩
    · refine ⟨mulR (by decide), ?_⟩
      ((try (conv => whnf)); repeat (first | (refine cndT rfl ?_; (try (conv => whnf))) | (refine cndF rfl ?_; (try (conv => whnf)))))
      refine ⟨mulL (by decide), ?_⟩
      ((try (conv => whnf)); repeat (first | (refine cndT rfl ?_; (try (conv => whnf))) | (refine cndF rfl ?_; (try (conv => whnf)))))
      refine ⟨by decide, ?_⟩
      ((try (conv => whnf)); repeat (first | (refine cndT rfl ?_; (try (conv => whnf))) | (refine cndF rfl ?_; (try (conv => whnf)))))
      have n0 := Int.emod_nonneg (nm * 48271 + 7919 * (0 + (i : Int)) + 12345) (show (2147483647 : Int) ≠ 0 by decide)
      have n1 := Int.emod_lt_of_pos (nm * 48271 + 7919 * (0 + (i : Int)) + 12345) (show (0 : Int) < 2147483647 by decide)
      generalize (nm * 48271 + 7919 * (0 + (i : Int)) + 12345) % 2147483647 = nm2 at n0 n1 ⊢
      refine ⟨mulL (by omega), ?_⟩
      ((try (conv => whnf)); repeat (first | (refine cndT rfl ?_; (try (conv => whnf))) | (refine cndF rfl ?_; (try (conv => whnf)))))
      refine ⟨mulL (by decide), ?_⟩
      ((try (conv => whnf)); repeat (first | (refine cndT rfl ?_; (try (conv => whnf))) | (refine cndF rfl ?_; (try (conv => whnf)))))
      refine ⟨by decide, ?_⟩
      ((try (conv => whnf)); repeat (first | (refine cndT rfl ?_; (try (conv => whnf))) | (refine cndF rfl ?_; (try (conv => whnf)))))
      refine ⟨.inl ⟨rfl, _, SqL.of hxs⟩, ?_⟩
      ((try (conv => whnf)); repeat (first | (refine cndT rfl ?_; (try (conv => whnf))) | (refine cndF rfl ?_; (try (conv => whnf)))))
      refine ixL hS2 hat ?_
      ((try (conv => whnf)); repeat (first | (refine cndT rfl ?_; (try (conv => whnf))) | (refine cndF rfl ?_; (try (conv => whnf)))))
      refine ⟨by omega, ?_⟩
      ((try (conv => whnf)); repeat (first | (refine cndT rfl ?_; (try (conv => whnf))) | (refine cndF rfl ?_; (try (conv => whnf)))))
      refine ⟨l, _, _, rfl, rfl, hxs, by rw [List.length_map]; exact hxl', ?_⟩
      generalize hG : L2.upd _ l _ = H3
      obtain ⟨a1, a2⟩ := fin _ H3 (Int.emod_nonneg _ (by omega)) (Int.emod_lt_of_pos _ (by omega)) hG
      exact ⟨a1, a2, _, _, _, _, n0, n1, rfl⟩
  · rintro σ H2 ⟨kx, ⟨xs, hxs, hxl, hxr⟩, lf, nm, v5, v6, m0, m1, rfl⟩
    ((try (conv => whnf)); repeat (first | (refine cndT rfl ?_; (try (conv => whnf))) | (refine cndF rfl ?_; (try (conv => whnf)))))
    exact k l xs H2 nl (fun b o e => kx b o (ne_n (some_ne e) nl) (s1 _ _ e)) hxs (by rw [hxl]; simp) hxr
theorem pure_l_is_whole {K a b c H Q E} (h : P_l_is_whole K a b c H Q E) : t_l_is_whole K E { nx := fun _ H' => Q .non H', rt := Q } [some a, some b, some c] H := by
  obtain ⟨t, lo, hi, ht, rfl, rfl, q⟩ := h
  rcases ht.int_or with ⟨i, rfl, rfl⟩ | ⟨ni, h1⟩
  · refine isiN ht (b := true) (by decide +kernel) ?_
    ((try (conv => whnf)); repeat (first | (refine cndT rfl ?_; (try (conv => whnf))) | (refine cndF rfl ?_; (try (conv => whnf)))))
    refine isiN ht (b := false) (by decide +kernel) ?_
    ((try (conv => whnf)); repeat (first | (refine cndT rfl ?_; (try (conv => whnf))) | (refine cndF rfl ?_; (try (conv => whnf)))))
    refine cndD (fun h => ?_) (fun h => ?_)
    · have e : wholeV (.int i) lo hi = decide (i ≤ hi) := by simp [wholeV, h]
      rw [e] at q
      ((try (conv => whnf)); repeat (first | (refine cndT rfl ?_; (try (conv => whnf))) | (refine cndF rfl ?_; (try (conv => whnf)))))
      exact q
    · have e : wholeV (.int i) lo hi = false := by simp [wholeV, h]
      rw [e] at q
      exact q
  · have e : wholeV a lo hi = false := by
      unfold wholeV
      split
      · exact absurd rfl (ni _)
      · rfl
    rw [e] at q
    rcases h1 with h1 | ⟨h1, h2⟩
    · refine isiN ht h1 ?_
      ((try (conv => whnf)); repeat (first | (refine cndT rfl ?_; (try (conv => whnf))) | (refine cndF rfl ?_; (try (conv => whnf)))))
      exact q
    · refine isiN ht h1 ?_
      ((try (conv => whnf)); repeat (first | (refine cndT rfl ?_; (try (conv => whnf))) | (refine cndF rfl ?_; (try (conv => whnf)))))
      refine isiN ht h2 ?_
      ((try (conv => whnf)); repeat (first | (refine cndT rfl ?_; (try (conv => whnf))) | (refine cndF rfl ?_; (try (conv => whnf)))))
      exact q
theorem AnyV.mono {K H H' v} (s : Same H H') (h : AnyV K H v) : AnyV K H' v := ⟨h.1.imp fun _ z => z.mono s, h.2⟩
theorem AnyW.mono {K H H' v} (s : Same H H') (h : AnyW K H v) : AnyW K H' v := ⟨h.1.mono s, h.2⟩
theorem AnyW.str {K H} {z : Str} (h1 : z.length ≤ 20000) (h2 : PyData.strOk z = true) : AnyW K H (.str z) := ⟨⟨⟨"str", rfl⟩, fun _ e => by cases e; exact h1⟩, fun _ e => by cases e; exact h2⟩
theorem AnyW.int {K H} {i : Int} : AnyW K H (.int i) := ⟨⟨⟨"int", rfl⟩, fun _ e => by cases e⟩, fun _ e => by cases e⟩
theorem AnyW.bl {K H} {i : Bool} : AnyW K H (.bl i) := ⟨⟨⟨"bool", rfl⟩, fun _ e => by cases e⟩, fun _ e => by cases e⟩
theorem AnyW.non {K H} : AnyW K H .non := ⟨⟨⟨"NoneType", rfl⟩, fun _ e => by cases e⟩, fun _ e => by cases e⟩
theorem AnyW.lst {K H} {p : Addr} {xs : List V} (h : H p = some (.lst xs)) : AnyW K H (.ref p) := ⟨⟨⟨"list", .lst h⟩, fun _ e => by cases e⟩, fun _ e => by cases e⟩
theorem AnyW.tup {K H} {p : Addr} {xs : List V} (h : H p = some (.tup xs)) : AnyW K H (.ref p) := ⟨⟨⟨"tuple", .tup h⟩, fun _ e => by cases e⟩, fun _ e => by cases e⟩
theorem AnyW.dK {K H} {p : Addr} {xs : List (Key × V)} (h : H p = some (.dK xs)) : AnyW K H (.ref p) := ⟨⟨⟨"dict", .dK h⟩, fun _ e => by cases e⟩, fun _ e => by cases e⟩
theorem nmOk {z : Str} (h : z.length ≤ 8) (h2 : PyData.strOk z = true) : True := trivial
theorem atI_len {α : Type} {xs : List α} {i : Int} {v : α} (e : atI xs i = some v) : v ∈ xs := by
  obtain ⟨j, _, h⟩ := Option.bind_eq_some_iff.mp e
  exact List.mem_of_getElem? h
theorem sgl_ok {z : Str} (h : PyData.strOk z = true) {c : Nat} (hc : c ∈ z.cps.toList) : PyData.strOk ⟨#[c]⟩ = true := by
  unfold PyData.strOk at h ⊢
  rw [← Array.all_toList, List.all_eq_true] at h
  have := h c hc
  simpa using this
theorem fl_empty (l : List Nat) : (l.all fun c => decide (97 ≤ c) && decide (c ≤ 122)) = (l.filter (fun c => !(decide (97 ≤ c) && decide (c ≤ 122)))).isEmpty := by
  induction l with
  | nil => rfl
  | cons a l ih =>
    rw [List.all_cons, ih, List.filter_cons]
    generalize (decide (97 ≤ a) && decide (a ≤ 122)) = b
    cases b <;> rfl
theorem pure_l_is_name {K a H Q E} (h : P_l_is_name K a H Q E) : t_l_is_name K E { nx := fun _ H' => Q .non H', rt := Q } [some a, none] H := by
  obtain ⟨t, ht, hl, q⟩ := h
  rcases ht.str_or with ⟨z, rfl, rfl⟩ | ⟨nz, h1⟩
  · obtain ⟨hz, hok⟩ := hl z rfl
    have hz2 : z.length ≤ sizeLine := by rw [sizeLine_eq]; omega
    refine isiN ht (b := true) (by decide +kernel) ?_
    ((try (conv => whnf)); repeat (first | (refine cndT rfl ?_; (try (conv => whnf))) | (refine cndF rfl ?_; (try (conv => whnf)))))
    refine ⟨hz2, ?_⟩
    ((try (conv => whnf)); repeat (first | (refine cndT rfl ?_; (try (conv => whnf))) | (refine cndF rfl ?_; (try (conv => whnf)))))
    (refine cndB (fun c1 => ?_) (fun c1 => ?_) <;> (try simp only [Bool.not_eq_eq_eq_not, Bool.not_true, Bool.not_false, decide_eq_true_eq, decide_eq_false_iff_not, Int.not_le, Int.not_lt] at c1) <;> ((try (conv => whnf)); repeat (first | (refine cndT rfl ?_; (try (conv => whnf))) | (refine cndF rfl ?_; (try (conv => whnf))))))
    · (refine cndB (fun c2 => ?_) (fun c2 => ?_) <;> (try simp only [Bool.not_eq_eq_eq_not, Bool.not_true, Bool.not_false, decide_eq_true_eq, decide_eq_false_iff_not, Int.not_le, Int.not_lt] at c2) <;> ((try (conv => whnf)); repeat (first | (refine cndT rfl ?_; (try (conv => whnf))) | (refine cndF rfl ?_; (try (conv => whnf))))))
      · have q2 := q H (Same.refl _)
        rw [show nameV (.str z) = false from nameS_bad (.inr (by omega))] at q2
        exact q2
      · left
        ((try (conv => whnf)); repeat (first | (refine cndT rfl ?_; (try (conv => whnf))) | (refine cndF rfl ?_; (try (conv => whnf)))))
        have hn : z.cps.size ≤ 20000 := hz
        refine lcAcc walk_str (fun i => ((z.cps.toList.take i).filter (fun c => !(decide (97 ≤ c) && decide (c ≤ 122)))).map fun c => V.str ⟨#[c]⟩) rfl (fun i hi => ?_) (fun _ _ => trivial) (fun i x H1 H2 hi s y R R' r r' => ?_) (fun D H1 hD s => ?_)
        · have := List.length_filter_le (fun c => !(decide (97 ≤ c) && decide (c ≤ 122))) (z.cps.toList.take i)
          rw [sizeLine_eq, List.length_map]
          rw [List.length_take] at this
          omega
        · obtain ⟨rfl, c, hc, rfl⟩ := y
          refine ⟨rfl, ?_⟩
          have e1 : z.cps.toList.take (i + 1) = z.cps.toList.take i ++ [c] := by rw [List.take_add_one, Array.getElem?_toList, hc]; rfl
          have e : (decide (97 ≤ c) && decide (c ≤ 122)) = (!(Builtin.Str.occurrences (Str.ofString "abcdefghijklmnopqrstuvwxyz") ⟨#[c]⟩ 0 (Str.ofString "abcdefghijklmnopqrstuvwxyz").length 1).isEmpty) := by
            rw [PySem.StrLaws.found_one]
            by_cases e : 97 ≤ c ∧ c ≤ 122
            · rw [decide_eq_true ((alpha c).mpr e), decide_eq_true e.1, decide_eq_true e.2]; rfl
            · rw [decide_eq_false (fun z => e ((alpha c).mp z))]
              by_cases e1 : 97 ≤ c
              · rw [decide_eq_false (p := c ≤ 122) (fun z => e ⟨e1, z⟩)]; simp
              · rw [decide_eq_false e1]; rfl
          ((try (conv => whnf)); repeat (first | (refine cndT rfl ?_; (try (conv => whnf))) | (refine cndF rfl ?_; (try (conv => whnf)))))
          rw [← e]
          refine cndB (fun c1 => ?_) (fun c1 => ?_)
          · refine r _ _ (Same.refl _) ?_
            rw [e1, List.filter_append, List.map_append]
            simp [List.filter, c1]
          · refine r' _ (Same.refl _) ?_
            rw [e1, List.filter_append, List.map_append]
            simp [List.filter, c1]
        · refine ⟨by show 0 ≤ sizeLine; decide, ?_⟩
          (intro D2 nD2; generalize hG : _root_.L2.upd _ D2 _ = H3; have s3 := sameOf nD2 hG; have e3 := atOf hG; clear hG; ((try (conv => whnf)); repeat (first | (refine cndT rfl ?_; (try (conv => whnf))) | (refine cndF rfl ?_; (try (conv => whnf))))))
          have hn2 : z.cps.toList.take z.cps.size = z.cps.toList := List.take_of_length_le (by simp)
          rw [hn2] at hD
          generalize hf : z.cps.toList.filter (fun c => !(decide (97 ≤ c) && decide (c ≤ 122))) = fl at hD
          have q2 := q H3 (s.trans s3)
          have hq : nameV (.str z) = fl.isEmpty := by
            show nameS z = _
            unfold nameS
            rw [decide_eq_true (by omega), decide_eq_true (p := z.length ≤ 8) (by omega), ← hf]
            exact fl_empty _
          rw [hq] at q2
          refine eqDt (d := .list (fl.map fun c => PyData.str ⟨#[c]⟩)) (e := .list []) (b := fl.isEmpty) (.lst (SqL.of (s3 _ _ hD)) (dpAll fun c _ => .str _)) (.lst (SqL.of e3) .nil) (shapedL fun d hd => ?_) rfl (by cases fl <;> rfl) q2
          obtain ⟨c, hc, rfl⟩ := List.mem_map.mp hd
          rw [← hf] at hc
          exact ⟨sgl_ok hok (List.mem_filter.mp hc).1, Nat.zero_le _⟩
    · have q2 := q H (Same.refl _)
      rw [show nameV (.str z) = false from nameS_bad (.inl (by omega))] at q2
      exact q2
  · have e : nameV a = false := by
      unfold nameV
      split
      · exact absurd rfl (nz _)
      · rfl
    have q2 := q H (Same.refl _)
    rw [e] at q2
    refine isiN ht h1 ?_
    ((try (conv => whnf)); repeat (first | (refine cndT rfl ?_; (try (conv => whnf))) | (refine cndF rfl ?_; (try (conv => whnf)))))
    exact q2

end Wk12
namespace Wk12
open PySem L2 PySem.Spec PyProof.Rows Rf
theorem pure_l_name {K a H Q E} (h : P_l_name K a H Q E) : t_l_name K E { nx := fun _ H' => Q .non H', rt := Q } [some a, none] H := by
  obtain ⟨k, rfl, q⟩ := h
  ((try (conv => whnf)); repeat (first | (refine cndT rfl ?_; (try (conv => whnf))) | (refine cndF rfl ?_; (try (conv => whnf)))))
  refine ⟨by show 12 ≤ sizeLine; decide, ?_⟩
  (intro l nl; generalize hG : _root_.L2.upd _ l _ = H1; have s1 := sameOf nl hG; have e1 := atOf hG; clear hG; ((try (conv => whnf)); repeat (first | (refine cndT rfl ?_; (try (conv => whnf))) | (refine cndF rfl ?_; (try (conv => whnf))))))
  refine ⟨by decide, ?_⟩
  ((try (conv => whnf)); repeat (first | (refine cndT rfl ?_; (try (conv => whnf))) | (refine cndF rfl ?_; (try (conv => whnf)))))
  have h0 := Int.emod_nonneg k (show (12 : Int) ≠ 0 by decide)
  have h1 := Int.emod_lt_of_pos k (show (0 : Int) < 12 by decide)
  refine ixIn (SqL.of e1) h0 h1 fun v hv => ?_
  simp only [List.mem_cons, List.not_mem_nil, or_false] at hv
  rcases hv with rfl | rfl | rfl | rfl | rfl | rfl | rfl | rfl | rfl | rfl | rfl | rfl <;> exact q _ H1 (by decide +kernel) (by decide +kernel) s1
theorem pure_l_odd {K a H Q E} (h : P_l_odd K a H Q E) : t_l_odd K E { nx := fun _ H' => Q .non H', rt := Q } [some a, none] H := by
  obtain ⟨k, rfl, q⟩ := h
  ((try (conv => whnf)); repeat (first | (refine cndT rfl ?_; (try (conv => whnf))) | (refine cndF rfl ?_; (try (conv => whnf)))))
  refine ⟨by show 1 ≤ sizeLine; decide, ?_⟩
  (intro l1 n1; generalize hG : _root_.L2.upd _ l1 _ = H1; have s1 := sameOf n1 hG; have e1 := atOf hG; clear hG; ((try (conv => whnf)); repeat (first | (refine cndT rfl ?_; (try (conv => whnf))) | (refine cndF rfl ?_; (try (conv => whnf))))))
  refine ⟨by show 1 ≤ sizeLine; decide, ?_⟩
  (intro l2 n2; generalize hG : _root_.L2.upd _ l2 _ = H2; have s2 := sameOf n2 hG; have e2 := atOf hG; clear hG; ((try (conv => whnf)); repeat (first | (refine cndT rfl ?_; (try (conv => whnf))) | (refine cndF rfl ?_; (try (conv => whnf))))))
  left
  (intro l3 n3; generalize hG : _root_.L2.upd _ l3 _ = H3; have s3 := sameOf n3 hG; have e3 := atOf hG; clear hG; ((try (conv => whnf)); repeat (first | (refine cndT rfl ?_; (try (conv => whnf))) | (refine cndF rfl ?_; (try (conv => whnf))))))
  refine ⟨⟨by decide, by decide, by decide⟩, ?_⟩
  ((try (conv => whnf)); repeat (first | (refine cndT rfl ?_; (try (conv => whnf))) | (refine cndF rfl ?_; (try (conv => whnf)))))
  refine ⟨by show 14 ≤ sizeLine; decide, ?_⟩
  (intro l nl; generalize hG : _root_.L2.upd _ l _ = H4; have s4 := sameOf nl hG; have e4 := atOf hG; clear hG; ((try (conv => whnf)); repeat (first | (refine cndT rfl ?_; (try (conv => whnf))) | (refine cndF rfl ?_; (try (conv => whnf))))))
  refine ⟨by decide, ?_⟩
  ((try (conv => whnf)); repeat (first | (refine cndT rfl ?_; (try (conv => whnf))) | (refine cndF rfl ?_; (try (conv => whnf)))))
  have h0 := Int.emod_nonneg k (show (14 : Int) ≠ 0 by decide)
  have h1 := Int.emod_lt_of_pos k (show (0 : Int) < 14 by decide)
  have s := ((s1.trans s2).trans s3).trans s4
  refine ixIn (SqL.of e4) h0 h1 fun v hv => ?_
  simp only [List.mem_cons, List.not_mem_nil, or_false] at hv
  rcases hv with rfl | rfl | rfl | rfl | rfl | rfl | rfl | rfl | rfl | rfl | rfl | rfl | rfl | rfl <;> first
    | exact q _ H4 s .non
    | exact q _ H4 s .bl
    | exact q _ H4 s .int
    | exact q _ H4 s (.str (by decide +kernel) (by decide +kernel))
    | exact q _ H4 s (.lst (s4 _ _ (s3 _ _ (s2 _ _ e1))))
    | exact q _ H4 s (.tup (s4 _ _ (s3 _ _ e2)))
    | exact q _ H4 s (.dK (s4 _ _ e3))
theorem pure_l_number {K a H Q E} (h : P_l_number K a H Q E) : t_l_number K E { nx := fun _ H' => Q .non H', rt := Q } [some a, none] H := by
  obtain ⟨p, i, j, rfl, hS, j0, j1, q⟩ := h
  ((try (conv => whnf)); repeat (first | (refine cndT rfl ?_; (try (conv => whnf))) | (refine cndF rfl ?_; (try (conv => whnf)))))
  refine ixL hS (v := .int i) rfl ?_
  ((try (conv => whnf)); repeat (first | (refine cndT rfl ?_; (try (conv => whnf))) | (refine cndF rfl ?_; (try (conv => whnf)))))
  refine ⟨by decide, ?_⟩
  ((try (conv => whnf)); repeat (first | (refine cndT rfl ?_; (try (conv => whnf))) | (refine cndF rfl ?_; (try (conv => whnf)))))
  refine ixL hS (v := .int i) rfl ?_
  ((try (conv => whnf)); repeat (first | (refine cndT rfl ?_; (try (conv => whnf))) | (refine cndF rfl ?_; (try (conv => whnf)))))
  refine ⟨⟨by decide, by decide, by decide⟩, ?_⟩
  ((try (conv => whnf)); repeat (first | (refine cndT rfl ?_; (try (conv => whnf))) | (refine cndF rfl ?_; (try (conv => whnf)))))
  refine ⟨by decide, ?_⟩
  ((try (conv => whnf)); repeat (first | (refine cndT rfl ?_; (try (conv => whnf))) | (refine cndF rfl ?_; (try (conv => whnf)))))
  refine ⟨⟨by decide, by decide, by decide⟩, ?_⟩
  ((try (conv => whnf)); repeat (first | (refine cndT rfl ?_; (try (conv => whnf))) | (refine cndF rfl ?_; (try (conv => whnf)))))
  refine ⟨⟨by decide, by decide, by decide⟩, ?_⟩
  ((try (conv => whnf)); repeat (first | (refine cndT rfl ?_; (try (conv => whnf))) | (refine cndF rfl ?_; (try (conv => whnf)))))
  refine ixL hS (v := .int i) rfl ?_
  ((try (conv => whnf)); repeat (first | (refine cndT rfl ?_; (try (conv => whnf))) | (refine cndF rfl ?_; (try (conv => whnf)))))
  refine ⟨by decide, ?_⟩
  ((try (conv => whnf)); repeat (first | (refine cndT rfl ?_; (try (conv => whnf))) | (refine cndF rfl ?_; (try (conv => whnf)))))
  refine ixL hS (v := .int i) rfl ?_
  ((try (conv => whnf)); repeat (first | (refine cndT rfl ?_; (try (conv => whnf))) | (refine cndF rfl ?_; (try (conv => whnf)))))
  refine ⟨⟨by decide, by decide, by decide⟩, ?_⟩
  ((try (conv => whnf)); repeat (first | (refine cndT rfl ?_; (try (conv => whnf))) | (refine cndF rfl ?_; (try (conv => whnf)))))
  refine ⟨by decide, ?_⟩
  ((try (conv => whnf)); repeat (first | (refine cndT rfl ?_; (try (conv => whnf))) | (refine cndF rfl ?_; (try (conv => whnf)))))
  refine ⟨by show 7 ≤ sizeLine; decide, ?_⟩
  (intro l nl; generalize hG : _root_.L2.upd _ l _ = H1; have s1 := sameOf nl hG; have e1 := atOf hG; clear hG; ((try (conv => whnf)); repeat (first | (refine cndT rfl ?_; (try (conv => whnf))) | (refine cndF rfl ?_; (try (conv => whnf))))))
  refine ⟨by show 1 ≤ sizeLine; decide, ?_⟩
  (intro l2 n2; generalize hG : _root_.L2.upd _ l2 _ = H2; have s2 := sameOf n2 hG; have e2 := atOf hG; clear hG; ((try (conv => whnf)); repeat (first | (refine cndT rfl ?_; (try (conv => whnf))) | (refine cndF rfl ?_; (try (conv => whnf))))))
  refine ⟨by show 1 ≤ sizeLine; decide, ?_⟩
  (intro l3 n3; generalize hG : _root_.L2.upd _ l3 _ = H3; have s3 := sameOf n3 hG; have e3 := atOf hG; clear hG; ((try (conv => whnf)); repeat (first | (refine cndT rfl ?_; (try (conv => whnf))) | (refine cndF rfl ?_; (try (conv => whnf))))))
  refine ⟨⟨by decide, by decide, by decide⟩, ?_⟩
  ((try (conv => whnf)); repeat (first | (refine cndT rfl ?_; (try (conv => whnf))) | (refine cndF rfl ?_; (try (conv => whnf)))))
  have s13 := (s1.trans s2).trans s3
  refine ixL (s13.seq hS) (v := .int i) rfl ?_
  ((try (conv => whnf)); repeat (first | (refine cndT rfl ?_; (try (conv => whnf))) | (refine cndF rfl ?_; (try (conv => whnf)))))
  refine ⟨by show 7 ≤ sizeLine; decide, ?_⟩
  (intro l4 n4; generalize hG : _root_.L2.upd _ l4 _ = H4; have s4 := sameOf n4 hG; have e4 := atOf hG; clear hG; ((try (conv => whnf)); repeat (first | (refine cndT rfl ?_; (try (conv => whnf))) | (refine cndF rfl ?_; (try (conv => whnf))))))
  have s14 := s13.trans s4
  refine .inl ⟨l, l4, _, _, rfl, rfl, s4 _ _ (s3 _ _ (s2 _ _ e1)), e4, by show 14 ≤ sizeLine; decide, ?_⟩
  (intro l5 n5; generalize hG : _root_.L2.upd _ l5 _ = H5; have s5 := sameOf n5 hG; have e5 := atOf hG; clear hG; ((try (conv => whnf)); repeat (first | (refine cndT rfl ?_; (try (conv => whnf))) | (refine cndF rfl ?_; (try (conv => whnf))))))
  refine ixL ((s14.trans s5).seq hS) (v := .int j) rfl ?_
  refine ixIn (SqL.of e5) j0 j1 fun v hv => ?_
  have s := s14.trans s5
  simp only [List.mem_cons, List.not_mem_nil, or_false, List.cons_append, List.nil_append] at hv
  rcases hv with rfl | rfl | rfl | rfl | rfl | rfl | rfl | rfl | rfl | rfl | rfl | rfl | rfl | rfl <;> first
    | exact q _ H5 s .non
    | exact q _ H5 s .bl
    | exact q _ H5 s .int
    | exact q _ H5 s (.str (by decide +kernel) (by decide +kernel))
    | exact q _ H5 s (.lst (s5 _ _ (s4 _ _ (s3 _ _ e2))))
    | exact q _ H5 s (.tup (s5 _ _ (s4 _ _ e3)))
theorem twoO_1 {W : WebS} {b c : V} {r : Str × List (Str × V)} (h : placeO W b = some r) : twoO W b c = some r := by
  unfold twoO
  rw [h]
theorem twoO_2 {W : WebS} {b c : V} (h : placeO W b = none) : twoO W b c = match placeO W c with
    | some r => some r
    | none => if b = c then some ("Same", [("found", b)]) else none := by
  unfold twoO
  rw [h]
  try rfl
theorem StO.get {K : PySem.W.Frag} {H s d0 d1 W} (h : StO H s d0 d1 W) (n : Str) : DGet H d0 (.str n) ((getA W.hv n).map V.int) := by
  have g := DGet.k (k := kS n) h.hv
  rw [emb_val kS_inj] at g
  exact g
theorem FQ.mono {o H H' Q} (h : FQ o H Q) (s : Same H H') : FQ o H' Q := ⟨fun r tv T H2 e w s2 eT => h.1 r tv T H2 e w (s.trans s2) eT, fun H2 e s2 => h.2 H2 e (s.trans s2)⟩
theorem pure_l_two_fault {K a b c H Q E} (h : P_l_two_fault K a b c H Q E) : t_l_two_fault K E { nx := fun _ H' => Q .non H', rt := Q } [some a, some b, some c, none] H := by
  obtain ⟨s, d0, d1, W, t, u, rfl, hs, ht, hu, k⟩ := h
  ((try (conv => whnf)); repeat (first | (refine cndT rfl ?_; (try (conv => whnf))) | (refine cndF rfl ?_; (try (conv => whnf)))))
  refine ⟨by show 2 ≤ sizeLine; decide, ?_⟩
  (intro l nl; generalize hG : _root_.L2.upd _ l _ = H1; have s1 := sameOf nl hG; have e1 := atOf hG; clear hG; ((try (conv => whnf)); repeat (first | (refine cndT rfl ?_; (try (conv => whnf))) | (refine cndF rfl ?_; (try (conv => whnf))))))
  refine .inl ⟨_, SqL.of e1, ?_⟩
  have hs1 := hs.same s1
  refine forL (SqL.of e1) (fun i σ H' => Same H1 H' ∧ (1 ≤ i → placeO W b = none) ∧ (2 ≤ i → placeO W c = none) ∧ ∃ v3 : Option V, σ = [some (.ref s), some b, some c, v3]) ⟨Same.refl _, fun h => absurd h (by decide), fun h => absurd h (by decide), _, rfl⟩ ?_ ?_ ?_
  · rintro i σ H' _ ⟨sx, _⟩
    exact SqL.of (sx _ _ e1)
  · rintro i y σ H2 hy ⟨sx, hb, hc, v3, rfl⟩
    have sH := s1.trans sx
    have hs2 := hs.same sH
    have k2 := k.mono sH
    -- one thing
    have one : ∀ (v : V) (tv : String) (D : Ends) , TyN K H2 v tv → (∀ r, placeO W v = some r → twoO W b c = some r) → D.rt = Q → (placeO W v = none → D.nx [some (.ref s), some b, some c, some v] H2) →
        uIf (uOr (tNot (tTru K (tCB (rIsiU K) (tCons (tV 3) (tCons (tC (.ty "str")) tNil))))) (tBo (tOp (rNinU K) (tV 3) (tOp (rIxU K) (tV 0) (tC (.int 0)))))) (tRet (tTup (tCons (tC (.str "place")) (tCons (tV 3) tNil)))) tNext D [some (.ref s), some b, some c, some v] H2 := by
      intro v tv D hv hp hD hn
      rcases hv.str_or with ⟨n, rfl, rfl⟩ | ⟨nz, h1⟩
      · refine isiN hv (b := true) (by decide +kernel) ?_
        ((try (conv => whnf)); repeat (first | (refine cndT rfl ?_; (try (conv => whnf))) | (refine cndF rfl ?_; (try (conv => whnf)))))
        refine ixLk hs2.s (v := .ref d0) rfl ?_
        refine .inr ⟨d0, _, rfl, hs2.get (K := K) n, ?_⟩
        rw [some_int]
        cases c0 : (getA W.hv n).isSome with
        | true =>
          ((try (conv => whnf)); repeat (first | (refine cndT rfl ?_; (try (conv => whnf))) | (refine cndF rfl ?_; (try (conv => whnf)))))
          exact hn (placeO_str c0)
        | false =>
          ((try (conv => whnf)); repeat (first | (refine cndT rfl ?_; (try (conv => whnf))) | (refine cndF rfl ?_; (try (conv => whnf)))))
          refine ⟨by show 2 ≤ sizeLine; decide, ?_⟩
          (intro T nT; generalize hG : _root_.L2.upd _ T _ = H3; have s3 := sameOf nT hG; have e3 := atOf hG; clear hG; ((try (conv => whnf)); repeat (first | (refine cndT rfl ?_; (try (conv => whnf))) | (refine cndF rfl ?_; (try (conv => whnf))))))
          show D.rt (.ref T) H3
          rw [hD]
          exact k2.1 _ _ T H3 (hp _ (placeO_no c0)) (.place _) s3 e3
      · refine isiN hv h1 ?_
        ((try (conv => whnf)); repeat (first | (refine cndT rfl ?_; (try (conv => whnf))) | (refine cndF rfl ?_; (try (conv => whnf)))))
        refine ⟨by show 2 ≤ sizeLine; decide, ?_⟩
        (intro T nT; generalize hG : _root_.L2.upd _ T _ = H3; have s3 := sameOf nT hG; have e3 := atOf hG; clear hG; ((try (conv => whnf)); repeat (first | (refine cndT rfl ?_; (try (conv => whnf))) | (refine cndF rfl ?_; (try (conv => whnf))))))
        show D.rt (.ref T) H3
        rw [hD]
        exact k2.1 _ _ T H3 (hp _ (placeO_non nz)) (.place _) s3 e3
    rcases i with _ | _ | i
    · cases hy
      ((try (conv => whnf)); repeat (first | (refine cndT rfl ?_; (try (conv => whnf))) | (refine cndF rfl ?_; (try (conv => whnf)))))
      refine one b t _ (ht.mono sH) (fun r hr => twoO_1 hr) rfl fun h1 => ⟨sx, fun _ => h1, fun h => absurd h (by decide), _, rfl⟩
    · cases hy
      have hb1 := hb (by decide)
      ((try (conv => whnf)); repeat (first | (refine cndT rfl ?_; (try (conv => whnf))) | (refine cndF rfl ?_; (try (conv => whnf)))))
      refine one c u _ (hu.mono sH) (fun r hr => by rw [twoO_2 hb1, hr]) rfl fun h1 => ⟨sx, fun _ => hb1, fun _ => h1, _, rfl⟩
    · cases hy
  · rintro σ H2 ⟨sx, hb, hc, v3, rfl⟩
    have hb1 := hb (by show 1 ≤ 2; decide)
    have hc1 := hc (by show 2 ≤ 2; decide)
    have k2 := k.mono (s1.trans sx)
    obtain ⟨n, rfl, hn⟩ := placeO_ok hb1
    obtain ⟨m, rfl, hm⟩ := placeO_ok hc1
    have e := twoO_2 (c := .str m) hb1
    rw [hc1] at e
    replace e : twoO W (.str n) (.str m) = if V.str n = V.str m then rf1 "Same" "found" (.str n) else none := e
    ((try (conv => whnf)); repeat (first | (refine cndT rfl ?_; (try (conv => whnf))) | (refine cndF rfl ?_; (try (conv => whnf)))))
    (refine cndB (fun c1 => ?_) (fun c1 => ?_) <;> (try simp only [Bool.not_eq_eq_eq_not, Bool.not_true, Bool.not_false, decide_eq_true_eq, decide_eq_false_iff_not, Int.not_le, Int.not_lt] at c1) <;> ((try (conv => whnf)); repeat (first | (refine cndT rfl ?_; (try (conv => whnf))) | (refine cndF rfl ?_; (try (conv => whnf))))))
    · refine ⟨by show 2 ≤ sizeLine; decide, ?_⟩
      (intro T nT; generalize hG : _root_.L2.upd _ T _ = H3; have s3 := sameOf nT hG; have e3 := atOf hG; clear hG; ((try (conv => whnf)); repeat (first | (refine cndT rfl ?_; (try (conv => whnf))) | (refine cndF rfl ?_; (try (conv => whnf))))))
      exact k2.1 _ _ T H3 (e.trans (if_pos (congrArg V.str c1))) (.same _) s3 e3
    · exact k2.2 H2 (e.trans (if_neg fun z => c1 (V.str.inj z))) (Same.refl _)

end Wk12
namespace Wk12
open PySem L2 PySem.Spec PyProof.Rows Rf
theorem pure_l_put_fault {K a b c H Q E} (h : P_l_put_fault K a b c H Q E) : t_l_put_fault K E { nx := fun _ H' => Q .non H', rt := Q } [some a, some b, some c] H := by
  obtain ⟨s, d0, d1, W, t, u, rfl, hs, ht, hu, hz, hl, k⟩ := h
  ((try (conv => whnf)); repeat (first | (refine cndT rfl ?_; (try (conv => whnf))) | (refine cndF rfl ?_; (try (conv => whnf)))))
  refine ⟨t, ht, hz, fun H1 s1 => ?_⟩
  have k1 := k.mono s1
  cases c0 : nameV b with
  | false =>
    ((try (conv => whnf)); repeat (first | (refine cndT rfl ?_; (try (conv => whnf))) | (refine cndF rfl ?_; (try (conv => whnf)))))
    refine ⟨by show 2 ≤ sizeLine; decide, ?_⟩
    (intro T nT; generalize hG : _root_.L2.upd _ T _ = H2; have s2 := sameOf nT hG; have e2 := atOf hG; clear hG; ((try (conv => whnf)); repeat (first | (refine cndT rfl ?_; (try (conv => whnf))) | (refine cndF rfl ?_; (try (conv => whnf))))))
    exact k1.1 _ _ T H2 (by unfold putO; rw [c0]; rfl) (.name _) s2 e2
  | true =>
  obtain ⟨n, rfl, hn⟩ := nameV_str c0
  ((try (conv => whnf)); repeat (first | (refine cndT rfl ?_; (try (conv => whnf))) | (refine cndF rfl ?_; (try (conv => whnf)))))
  refine ⟨⟨by decide, by decide, by decide⟩, ?_⟩
  ((try (conv => whnf)); repeat (first | (refine cndT rfl ?_; (try (conv => whnf))) | (refine cndF rfl ?_; (try (conv => whnf)))))
  refine ⟨u, 1, 1000000000, hu.mono s1, rfl, rfl, ?_⟩
  cases c1 : wholeV c 1 1000000000 with
  | false =>
    ((try (conv => whnf)); repeat (first | (refine cndT rfl ?_; (try (conv => whnf))) | (refine cndF rfl ?_; (try (conv => whnf)))))
    refine ⟨by show 2 ≤ sizeLine; decide, ?_⟩
    (intro T nT; generalize hG : _root_.L2.upd _ T _ = H2; have s2 := sameOf nT hG; have e2 := atOf hG; clear hG; ((try (conv => whnf)); repeat (first | (refine cndT rfl ?_; (try (conv => whnf))) | (refine cndF rfl ?_; (try (conv => whnf))))))
    exact k1.1 _ _ T H2 (putO_w hn (by unfold weightO; rw [c1]; rfl)) (.weight _) s2 e2
  | true =>
  obtain ⟨w, rfl, w1, w2⟩ := wholeV_int c1
  have at0 := putO_at (W := W) hn (show weightO (.int w) = none from by unfold weightO; rw [if_pos c1])
  have hs1 := hs.same s1
  ((try (conv => whnf)); repeat (first | (refine cndT rfl ?_; (try (conv => whnf))) | (refine cndF rfl ?_; (try (conv => whnf)))))
  refine ixLk hs1.s (v := .ref d0) rfl ?_
  refine .inr ⟨d0, _, rfl, hs1.get (K := K) n, ?_⟩
  rw [some_int]
  cases hg : (getA W.hv n).isSome with
  | true =>
    rw [if_pos hg] at at0
    ((try (conv => whnf)); repeat (first | (refine cndT rfl ?_; (try (conv => whnf))) | (refine cndF rfl ?_; (try (conv => whnf)))))
    refine ⟨by show 2 ≤ sizeLine; decide, ?_⟩
    (intro T nT; generalize hG : _root_.L2.upd _ T _ = H2; have s2 := sameOf nT hG; have e2 := atOf hG; clear hG; ((try (conv => whnf)); repeat (first | (refine cndT rfl ?_; (try (conv => whnf))) | (refine cndF rfl ?_; (try (conv => whnf))))))
    exact k1.1 _ _ T H2 at0 (.taken _) s2 e2
  | false =>
  rw [if_neg (by rw [hg]; simp)] at at0
  ((try (conv => whnf)); repeat (first | (refine cndT rfl ?_; (try (conv => whnf))) | (refine cndF rfl ?_; (try (conv => whnf)))))
  refine ixLk hs1.s (v := .ref d0) rfl ?_
  refine .inr (.inr (.inl ⟨_, hs1.hv, ?_⟩))
  rw [emb_len]
  ((try (conv => whnf)); repeat (first | (refine cndT rfl ?_; (try (conv => whnf))) | (refine cndF rfl ?_; (try (conv => whnf)))))
  (refine cndB (fun c2 => ?_) (fun c2 => ?_) <;> (try simp only [Bool.not_eq_eq_eq_not, Bool.not_true, Bool.not_false, decide_eq_true_eq, decide_eq_false_iff_not, Int.not_le, Int.not_lt] at c2) <;> ((try (conv => whnf)); repeat (first | (refine cndT rfl ?_; (try (conv => whnf))) | (refine cndF rfl ?_; (try (conv => whnf))))))
  · rw [if_pos (by omega)] at at0
    refine ⟨by show 2 ≤ sizeLine; decide, ?_⟩
    (intro T nT; generalize hG : _root_.L2.upd _ T _ = H2; have s2 := sameOf nT hG; have e2 := atOf hG; clear hG; ((try (conv => whnf)); repeat (first | (refine cndT rfl ?_; (try (conv => whnf))) | (refine cndF rfl ?_; (try (conv => whnf))))))
    exact k1.1 _ _ T H2 at0 (.many _) s2 e2
  rw [if_neg (by omega)] at at0
  refine ixLk hs1.s (v := .ref d0) rfl ?_
  refine ⟨d0, W.hv.map Prod.snd, rfl, .inl ⟨_, hs1.hv, emb_vals _ _⟩, ?_⟩
  ((try (conv => whnf)); repeat (first | (refine cndT rfl ?_; (try (conv => whnf))) | (refine cndF rfl ?_; (try (conv => whnf)))))
  refine ⟨⟨by decide, by decide, by decide⟩, ?_⟩
  ((try (conv => whnf)); repeat (first | (refine cndT rfl ?_; (try (conv => whnf))) | (refine cndF rfl ?_; (try (conv => whnf)))))
  (refine cndB (fun c3 => ?_) (fun c3 => ?_) <;> (try simp only [Bool.not_eq_eq_eq_not, Bool.not_true, Bool.not_false, decide_eq_true_eq, decide_eq_false_iff_not, Int.not_le, Int.not_lt] at c3) <;> ((try (conv => whnf)); repeat (first | (refine cndT rfl ?_; (try (conv => whnf))) | (refine cndF rfl ?_; (try (conv => whnf))))))
  · rw [show (10 : Int) ^ Int.toNat 9 = 1000000000 from rfl] at c3
    rw [if_pos (by unfold totalW; omega)] at at0
    refine ixLk hs1.s (v := .ref d0) rfl ?_
    refine ⟨d0, W.hv.map Prod.snd, rfl, .inl ⟨_, hs1.hv, emb_vals _ _⟩, ?_⟩
    ((try (conv => whnf)); repeat (first | (refine cndT rfl ?_; (try (conv => whnf))) | (refine cndF rfl ?_; (try (conv => whnf)))))
    refine ⟨by show 2 ≤ sizeLine; decide, ?_⟩
    (intro T nT; generalize hG : _root_.L2.upd _ T _ = H2; have s2 := sameOf nT hG; have e2 := atOf hG; clear hG; ((try (conv => whnf)); repeat (first | (refine cndT rfl ?_; (try (conv => whnf))) | (refine cndF rfl ?_; (try (conv => whnf))))))
    exact k1.1 _ _ T H2 at0 (.beyond _) s2 e2
  · rw [show (10 : Int) ^ Int.toNat 9 = 1000000000 from rfl] at c3
    rw [if_neg (by unfold totalW; omega)] at at0
    exact k1.2 H1 at0 (Same.refl _)
theorem weighO_p {W : WebS} {b c : V} {r : Str × List (Str × V)} (h : placeO W b = some r) : weighO W b c = some r := by
  unfold weighO
  rw [h]
theorem weighO_w {W : WebS} {b c : V} {r : Str × List (Str × V)} (h : placeO W b = none) (h2 : weightO c = some r) : weighO W b c = some r := by
  unfold weighO
  rw [h, h2]
theorem weighO_at {W : WebS} {n : Str} {w w0 : Int} (h1 : placeO W (.str n) = none) (h2 : weightO (.int w) = none) (hg : getA W.hv n = some w0) : weighO W (.str n) (.int w) = if 1000000000 < totalW W - w0 + w then rf1 "Beyond" "many" (.int (totalW W - w0 + w)) else none := by
  unfold weighO
  rw [h1, h2]
  show (if 1000000000 < totalW W - (getA W.hv n).getD 0 + w then rf1 "Beyond" "many" (.int (totalW W - (getA W.hv n).getD 0 + w)) else none) = _
  rw [hg]
  try rfl
theorem pure_l_weigh_fault {K a b c H Q E} (h : P_l_weigh_fault K a b c H Q E) : t_l_weigh_fault K E { nx := fun _ H' => Q .non H', rt := Q } [some a, some b, some c, none] H := by
  obtain ⟨s, d0, d1, W, t, u, rfl, hs, ht, hu, hl, k⟩ := h
  rcases ht.str_or with ⟨n, rfl, rfl⟩ | ⟨nz, h1⟩
  case inr =>
    ((try (conv => whnf)); repeat (first | (refine cndT rfl ?_; (try (conv => whnf))) | (refine cndF rfl ?_; (try (conv => whnf)))))
    refine isiN ht h1 ?_
    ((try (conv => whnf)); repeat (first | (refine cndT rfl ?_; (try (conv => whnf))) | (refine cndF rfl ?_; (try (conv => whnf)))))
    refine ⟨by show 2 ≤ sizeLine; decide, ?_⟩
    (intro T nT; generalize hG : _root_.L2.upd _ T _ = H2; have s2 := sameOf nT hG; have e2 := atOf hG; clear hG; ((try (conv => whnf)); repeat (first | (refine cndT rfl ?_; (try (conv => whnf))) | (refine cndF rfl ?_; (try (conv => whnf))))))
    exact k.1 _ _ T H2 (weighO_p (placeO_non nz)) (.place _) s2 e2
  ((try (conv => whnf)); repeat (first | (refine cndT rfl ?_; (try (conv => whnf))) | (refine cndF rfl ?_; (try (conv => whnf)))))
  refine isiN ht (b := true) (by decide +kernel) ?_
  ((try (conv => whnf)); repeat (first | (refine cndT rfl ?_; (try (conv => whnf))) | (refine cndF rfl ?_; (try (conv => whnf)))))
  refine ixLk hs.s (v := .ref d0) rfl ?_
  refine .inr ⟨d0, _, rfl, hs.get (K := K) n, ?_⟩
  rw [some_int]
  cases hg : (getA W.hv n).isSome with
  | false =>
    ((try (conv => whnf)); repeat (first | (refine cndT rfl ?_; (try (conv => whnf))) | (refine cndF rfl ?_; (try (conv => whnf)))))
    refine ⟨by show 2 ≤ sizeLine; decide, ?_⟩
    (intro T nT; generalize hG : _root_.L2.upd _ T _ = H2; have s2 := sameOf nT hG; have e2 := atOf hG; clear hG; ((try (conv => whnf)); repeat (first | (refine cndT rfl ?_; (try (conv => whnf))) | (refine cndF rfl ?_; (try (conv => whnf))))))
    exact k.1 _ _ T H2 (weighO_p (placeO_no hg)) (.place _) s2 e2
  | true =>
  have hp := placeO_str hg
  ((try (conv => whnf)); repeat (first | (refine cndT rfl ?_; (try (conv => whnf))) | (refine cndF rfl ?_; (try (conv => whnf)))))
  refine ⟨⟨by decide, by decide, by decide⟩, ?_⟩
  ((try (conv => whnf)); repeat (first | (refine cndT rfl ?_; (try (conv => whnf))) | (refine cndF rfl ?_; (try (conv => whnf)))))
  refine ⟨u, 1, 1000000000, hu, rfl, rfl, ?_⟩
  cases c1 : wholeV c 1 1000000000 with
  | false =>
    ((try (conv => whnf)); repeat (first | (refine cndT rfl ?_; (try (conv => whnf))) | (refine cndF rfl ?_; (try (conv => whnf)))))
    refine ⟨by show 2 ≤ sizeLine; decide, ?_⟩
    (intro T nT; generalize hG : _root_.L2.upd _ T _ = H2; have s2 := sameOf nT hG; have e2 := atOf hG; clear hG; ((try (conv => whnf)); repeat (first | (refine cndT rfl ?_; (try (conv => whnf))) | (refine cndF rfl ?_; (try (conv => whnf))))))
    exact k.1 _ _ T H2 (weighO_w hp (by unfold weightO; rw [c1]; rfl)) (.weight _) s2 e2
  | true =>
  obtain ⟨w, rfl, w1, w2⟩ := wholeV_int c1
  obtain ⟨w0, hg0⟩ := Option.isSome_iff_exists.mp hg
  have at0 := weighO_at hp (show weightO (.int w) = none from by unfold weightO; rw [if_pos c1]) hg0
  ((try (conv => whnf)); repeat (first | (refine cndT rfl ?_; (try (conv => whnf))) | (refine cndF rfl ?_; (try (conv => whnf)))))
  refine ixLk hs.s (v := .ref d0) rfl ?_
  refine ⟨d0, W.hv.map Prod.snd, rfl, .inl ⟨_, hs.hv, emb_vals _ _⟩, ?_⟩
  ((try (conv => whnf)); repeat (first | (refine cndT rfl ?_; (try (conv => whnf))) | (refine cndF rfl ?_; (try (conv => whnf)))))
  refine ixLk hs.s (v := .ref d0) rfl ?_
  have g := hs.get (K := K) n
  rw [hg0] at g
  refine ixD g ?_
  ((try (conv => whnf)); repeat (first | (refine cndT rfl ?_; (try (conv => whnf))) | (refine cndF rfl ?_; (try (conv => whnf)))))
  refine ⟨⟨by decide, by decide, by decide⟩, ?_⟩
  ((try (conv => whnf)); repeat (first | (refine cndT rfl ?_; (try (conv => whnf))) | (refine cndF rfl ?_; (try (conv => whnf)))))
  (refine cndB (fun c3 => ?_) (fun c3 => ?_) <;> (try simp only [Bool.not_eq_eq_eq_not, Bool.not_true, Bool.not_false, decide_eq_true_eq, decide_eq_false_iff_not, Int.not_le, Int.not_lt] at c3) <;> ((try (conv => whnf)); repeat (first | (refine cndT rfl ?_; (try (conv => whnf))) | (refine cndF rfl ?_; (try (conv => whnf))))))
  · rw [show (10 : Int) ^ Int.toNat 9 = 1000000000 from rfl] at c3
    rw [if_pos (by unfold totalW; omega)] at at0
    refine ⟨by show 2 ≤ sizeLine; decide, ?_⟩
    (intro T nT; generalize hG : _root_.L2.upd _ T _ = H2; have s2 := sameOf nT hG; have e2 := atOf hG; clear hG; ((try (conv => whnf)); repeat (first | (refine cndT rfl ?_; (try (conv => whnf))) | (refine cndF rfl ?_; (try (conv => whnf))))))
    exact k.1 _ _ T H2 at0 (.beyond _) s2 e2
  · rw [show (10 : Int) ^ Int.toNat 9 = 1000000000 from rfl] at c3
    rw [if_neg (by unfold totalW; omega)] at at0
    exact k.2 H at0 (Same.refl _)
theorem tieO_2 {W : WebS} {b c d : V} {r : Str × List (Str × V)} (h : twoO W b c = some r) : tieO W b c d = some r := by
  unfold tieO
  rw [h]
theorem tieO_s {W : WebS} {b c d : V} {r : Str × List (Str × V)} (h : twoO W b c = none) (h2 : strO d = some r) : tieO W b c d = some r := by
  unfold tieO
  rw [h, h2]
theorem tieO_k {W : WebS} {n m : Str} {w : Int} (h : twoO W (.str n) (.str m) = none) (h2 : strO (.int w) = none) : tieO W (.str n) (.str m) (.int w) = if (knotW W n m).isSome = true then rf2 "Tied" "other" "one" (.str m) (.str n) else if 200 ≤ W.kn.length then rf1 "TooMany" "many" (.int 201) else if 1000000000 < forceW W + w then rf1 "Beyond" "many" (.int (forceW W + w)) else none := by
  unfold tieO
  rw [h, h2]
theorem pl_ok {W : WebS} {n : Str} (ok : okN W) (h : isPl W n) : PyData.strOk n = true := by
  obtain ⟨i, e, he, rfl⟩ := getA_ex h
  exact ok.1 e (List.mem_of_getElem? he)
theorem pure_l_tie_fault {K a b c d H Q E} (h : P_l_tie_fault K a b c d H Q E) : t_l_tie_fault K E { nx := fun _ H' => Q .non H', rt := Q } [some a, some b, some c, some d, none] H := by
  obtain ⟨s, d0, d1, W, t, u, v, rfl, hs, ht, hu, hv, ow, ok, hl, k⟩ := h
  ((try (conv => whnf)); repeat (first | (refine cndT rfl ?_; (try (conv => whnf))) | (refine cndF rfl ?_; (try (conv => whnf)))))
  refine ⟨s, d0, d1, W, t, u, rfl, hs, ht, hu, ⟨fun r tv T H1 e w s1 eT => ?_, fun H1 h2 s1 => ?_⟩⟩
  · ((try (conv => whnf)); repeat (first | (refine cndT rfl ?_; (try (conv => whnf))) | (refine cndF rfl ?_; (try (conv => whnf)))))
    refine ⟨rfl, ?_⟩
    ((try (conv => whnf)); repeat (first | (refine cndT rfl ?_; (try (conv => whnf))) | (refine cndF rfl ?_; (try (conv => whnf)))))
    exact k.1 _ _ T H1 (tieO_2 e) w s1 eT
  obtain ⟨n, m, rfl, rfl, hn, hm, ne⟩ := twoO_ok h2
  have k1 := k.mono s1
  have hs1 := hs.same s1
  ((try (conv => whnf)); repeat (first | (refine cndT rfl ?_; (try (conv => whnf))) | (refine cndF rfl ?_; (try (conv => whnf)))))
  refine ⟨rfl, ?_⟩
  ((try (conv => whnf)); repeat (first | (refine cndT rfl ?_; (try (conv => whnf))) | (refine cndF rfl ?_; (try (conv => whnf)))))
  refine ⟨⟨by decide, by decide, by decide⟩, ?_⟩
  ((try (conv => whnf)); repeat (first | (refine cndT rfl ?_; (try (conv => whnf))) | (refine cndF rfl ?_; (try (conv => whnf)))))
  refine ⟨v, 1, 1000000000, hv.mono s1, rfl, rfl, ?_⟩
  cases c1 : wholeV d 1 1000000000 with
  | false =>
    ((try (conv => whnf)); repeat (first | (refine cndT rfl ?_; (try (conv => whnf))) | (refine cndF rfl ?_; (try (conv => whnf)))))
    refine ⟨by show 2 ≤ sizeLine; decide, ?_⟩
    (intro T nT; generalize hG : _root_.L2.upd _ T _ = H2; have s2 := sameOf nT hG; have e2 := atOf hG; clear hG; ((try (conv => whnf)); repeat (first | (refine cndT rfl ?_; (try (conv => whnf))) | (refine cndF rfl ?_; (try (conv => whnf))))))
    exact k1.1 _ _ T H2 (tieO_s h2 (by unfold strO; rw [c1]; rfl)) (.strength _) s2 e2
  | true =>
  obtain ⟨w, rfl, w1, w2⟩ := wholeV_int c1
  have at0 := tieO_k h2 (show strO (.int w) = none from by unfold strO; rw [if_pos c1])
  ((try (conv => whnf)); repeat (first | (refine cndT rfl ?_; (try (conv => whnf))) | (refine cndF rfl ?_; (try (conv => whnf)))))
  refine ⟨s, d0, d1, W, n, m, rfl, hs1, rfl, rfl, ow, pl_ok ok hn, pl_ok ok hm, ok, fun T u' v' H2 e s2 eT => ?_, fun H2 e s2 => ?_⟩
  · rw [if_pos (by rw [e]; rfl)] at at0
    ((try (conv => whnf)); repeat (first | (refine cndT rfl ?_; (try (conv => whnf))) | (refine cndF rfl ?_; (try (conv => whnf)))))
    refine ⟨rfl, ?_⟩
    ((try (conv => whnf)); repeat (first | (refine cndT rfl ?_; (try (conv => whnf))) | (refine cndF rfl ?_; (try (conv => whnf)))))
    refine ⟨by show 3 ≤ sizeLine; decide, ?_⟩
    (intro T3 nT3; generalize hG : _root_.L2.upd _ T3 _ = H3; have s3 := sameOf nT3 hG; have e3 := atOf hG; clear hG; ((try (conv => whnf)); repeat (first | (refine cndT rfl ?_; (try (conv => whnf))) | (refine cndF rfl ?_; (try (conv => whnf))))))
    exact k1.1 _ _ T3 H3 at0 (.tied _ _) (s2.trans s3) e3
  rw [if_neg (by rw [e]; simp)] at at0
  have hs2 := hs1.same s2
  have k2 := k1.mono s2
  ((try (conv => whnf)); repeat (first | (refine cndT rfl ?_; (try (conv => whnf))) | (refine cndF rfl ?_; (try (conv => whnf)))))
  refine ⟨rfl, ?_⟩
  ((try (conv => whnf)); repeat (first | (refine cndT rfl ?_; (try (conv => whnf))) | (refine cndF rfl ?_; (try (conv => whnf)))))
  refine ixLk hs2.s (v := .ref d1) rfl ?_
  refine .inr (.inr (.inr ⟨_, hs2.kn, ?_⟩))
  rw [emb_len]
  ((try (conv => whnf)); repeat (first | (refine cndT rfl ?_; (try (conv => whnf))) | (refine cndF rfl ?_; (try (conv => whnf)))))
  (refine cndB (fun c2 => ?_) (fun c2 => ?_) <;> (try simp only [Bool.not_eq_eq_eq_not, Bool.not_true, Bool.not_false, decide_eq_true_eq, decide_eq_false_iff_not, Int.not_le, Int.not_lt] at c2) <;> ((try (conv => whnf)); repeat (first | (refine cndT rfl ?_; (try (conv => whnf))) | (refine cndF rfl ?_; (try (conv => whnf))))))
  · rw [if_pos (by omega)] at at0
    refine ⟨by show 2 ≤ sizeLine; decide, ?_⟩
    (intro T nT; generalize hG : _root_.L2.upd _ T _ = H3; have s3 := sameOf nT hG; have e3 := atOf hG; clear hG; ((try (conv => whnf)); repeat (first | (refine cndT rfl ?_; (try (conv => whnf))) | (refine cndF rfl ?_; (try (conv => whnf))))))
    exact k2.1 _ _ T H3 at0 (.many _) s3 e3
  rw [if_neg (by omega)] at at0
  refine ixLk hs2.s (v := .ref d1) rfl ?_
  refine ⟨d1, W.kn.map Prod.snd, rfl, .inr ⟨_, hs2.kn, emb_vals _ _⟩, ?_⟩
  ((try (conv => whnf)); repeat (first | (refine cndT rfl ?_; (try (conv => whnf))) | (refine cndF rfl ?_; (try (conv => whnf)))))
  refine ⟨⟨by decide, by decide, by decide⟩, ?_⟩
  ((try (conv => whnf)); repeat (first | (refine cndT rfl ?_; (try (conv => whnf))) | (refine cndF rfl ?_; (try (conv => whnf)))))
  (refine cndB (fun c3 => ?_) (fun c3 => ?_) <;> (try simp only [Bool.not_eq_eq_eq_not, Bool.not_true, Bool.not_false, decide_eq_true_eq, decide_eq_false_iff_not, Int.not_le, Int.not_lt] at c3) <;> ((try (conv => whnf)); repeat (first | (refine cndT rfl ?_; (try (conv => whnf))) | (refine cndF rfl ?_; (try (conv => whnf))))))
  · rw [show (10 : Int) ^ Int.toNat 9 = 1000000000 from rfl] at c3
    rw [if_pos (by unfold forceW; omega)] at at0
    refine ixLk hs2.s (v := .ref d1) rfl ?_
    refine ⟨d1, W.kn.map Prod.snd, rfl, .inr ⟨_, hs2.kn, emb_vals _ _⟩, ?_⟩
    ((try (conv => whnf)); repeat (first | (refine cndT rfl ?_; (try (conv => whnf))) | (refine cndF rfl ?_; (try (conv => whnf)))))
    refine ⟨by show 2 ≤ sizeLine; decide, ?_⟩
    (intro T nT; generalize hG : _root_.L2.upd _ T _ = H3; have s3 := sameOf nT hG; have e3 := atOf hG; clear hG; ((try (conv => whnf)); repeat (first | (refine cndT rfl ?_; (try (conv => whnf))) | (refine cndF rfl ?_; (try (conv => whnf))))))
    exact k2.1 _ _ T H3 at0 (.beyond _) s3 e3
  · rw [show (10 : Int) ^ Int.toNat 9 = 1000000000 from rfl] at c3
    rw [if_neg (by unfold forceW; omega)] at at0
    exact k2.2 H2 at0 (Same.refl _)

end Wk12
namespace Wk12
open PySem L2 PySem.Spec PyProof.Rows Rf
theorem moreO_2 {W : WebS} {b c d : V} {r : Str × List (Str × V)} (h : needTieO W b c = some r) : moreO W b c d = some r := by
  unfold moreO
  rw [h]
theorem needTieO_no {W : WebS} {n m : Str} (h : twoO W (.str n) (.str m) = none) (e : knotW W n m = none) : needTieO W (.str n) (.str m) = rf2 "NoTie" "other" "one" (.str m) (.str n) := by
  unfold needTieO
  rw [h]
  show (match knotW W n m with | none => _ | some _ => _) = _
  rw [e]
theorem needTieO_yes {W : WebS} {n m : Str} {k : Str × Str} (h : twoO W (.str n) (.str m) = none) (e : knotW W n m = some k) : needTieO W (.str n) (.str m) = none := by
  unfold needTieO
  rw [h]
  show (match knotW W n m with | none => _ | some _ => _) = _
  rw [e]
theorem moreO_f {W : WebS} {n m : Str} {d : V} (h : needTieO W (.str n) (.str m) = none) (hd : wholeV d (-1000000000) 1000000000 = false) : moreO W (.str n) (.str m) d = rf1 "NoStrength" "found" d := by
  unfold moreO
  rw [h]
  dsimp only
  split
  · rename_i e1 e2
    rw [if_pos (.inl hd)]
  · rfl
theorem moreO_k {W : WebS} {n m : Str} {w : Int} (h : needTieO W (.str n) (.str m) = none) : moreO W (.str n) (.str m) (.int w) = if wholeV (.int w) (-1000000000) 1000000000 = false ∨ tieW W n m + w < 1 then rf1 "NoStrength" "found" (.int w) else if 1000000000 < forceW W + w then rf1 "Beyond" "many" (.int (forceW W + w)) else none := by
  unfold moreO
  rw [h]
theorem pure_l_more_fault {K a b c d H Q E} (h : P_l_more_fault K a b c d H Q E) : t_l_more_fault K E { nx := fun _ H' => Q .non H', rt := Q } [some a, some b, some c, some d, none, none] H := by
  obtain ⟨s, d0, d1, W, t, u, v, rfl, hs, ht, hu, hv, ow, ok, hl, k⟩ := h
  ((try (conv => whnf)); repeat (first | (refine cndT rfl ?_; (try (conv => whnf))) | (refine cndF rfl ?_; (try (conv => whnf)))))
  refine ⟨s, d0, d1, W, t, u, rfl, hs, ht, hu, ⟨fun r tv T H1 e w s1 eT => ?_, fun H1 h2 s1 => ?_⟩⟩
  · ((try (conv => whnf)); repeat (first | (refine cndT rfl ?_; (try (conv => whnf))) | (refine cndF rfl ?_; (try (conv => whnf)))))
    refine ⟨rfl, ?_⟩
    ((try (conv => whnf)); repeat (first | (refine cndT rfl ?_; (try (conv => whnf))) | (refine cndF rfl ?_; (try (conv => whnf)))))
    exact k.1 _ _ T H1 (moreO_2 (needTieO_two e)) w s1 eT
  obtain ⟨n, m, rfl, rfl, hn, hm, ne⟩ := twoO_ok h2
  have k1 := k.mono s1
  have hs1 := hs.same s1
  ((try (conv => whnf)); repeat (first | (refine cndT rfl ?_; (try (conv => whnf))) | (refine cndF rfl ?_; (try (conv => whnf)))))
  refine ⟨rfl, ?_⟩
  ((try (conv => whnf)); repeat (first | (refine cndT rfl ?_; (try (conv => whnf))) | (refine cndF rfl ?_; (try (conv => whnf)))))
  refine ⟨s, d0, d1, W, n, m, rfl, hs1, rfl, rfl, ow, pl_ok ok hn, pl_ok ok hm, ok, fun T u' v' H2 e s2 eT => ?_, fun H2 e s2 => ?_⟩
  case refine_2 =>
    ((try (conv => whnf)); repeat (first | (refine cndT rfl ?_; (try (conv => whnf))) | (refine cndF rfl ?_; (try (conv => whnf)))))
    refine ⟨rfl, ?_⟩
    ((try (conv => whnf)); repeat (first | (refine cndT rfl ?_; (try (conv => whnf))) | (refine cndF rfl ?_; (try (conv => whnf)))))
    refine ⟨by show 3 ≤ sizeLine; decide, ?_⟩
    (intro T3 nT3; generalize hG : _root_.L2.upd _ T3 _ = H3; have s3 := sameOf nT3 hG; have e3 := atOf hG; clear hG; ((try (conv => whnf)); repeat (first | (refine cndT rfl ?_; (try (conv => whnf))) | (refine cndF rfl ?_; (try (conv => whnf))))))
    exact k1.1 _ _ T3 H3 (moreO_2 (needTieO_no h2 e)) (.notie _ _) (s2.trans s3) e3
  have nt := needTieO_yes h2 e
  have hs2 := hs1.same s2
  have k2 := k1.mono s2
  ((try (conv => whnf)); repeat (first | (refine cndT rfl ?_; (try (conv => whnf))) | (refine cndF rfl ?_; (try (conv => whnf)))))
  refine ⟨rfl, ?_⟩
  ((try (conv => whnf)); repeat (first | (refine cndT rfl ?_; (try (conv => whnf))) | (refine cndF rfl ?_; (try (conv => whnf)))))
  refine ⟨⟨by decide, by decide, by decide⟩, ?_⟩
  ((try (conv => whnf)); repeat (first | (refine cndT rfl ?_; (try (conv => whnf))) | (refine cndF rfl ?_; (try (conv => whnf)))))
  refine ⟨⟨by decide, by decide, by decide⟩, ?_⟩
  ((try (conv => whnf)); repeat (first | (refine cndT rfl ?_; (try (conv => whnf))) | (refine cndF rfl ?_; (try (conv => whnf)))))
  refine ⟨v, -1000000000, 1000000000, hv.mono (s1.trans s2), rfl, rfl, ?_⟩
  cases c1 : wholeV d (-1000000000) 1000000000 with
  | false =>
    ((try (conv => whnf)); repeat (first | (refine cndT rfl ?_; (try (conv => whnf))) | (refine cndF rfl ?_; (try (conv => whnf)))))
    refine ⟨by show 2 ≤ sizeLine; decide, ?_⟩
    (intro T3 nT3; generalize hG : _root_.L2.upd _ T3 _ = H3; have s3 := sameOf nT3 hG; have e3 := atOf hG; clear hG; ((try (conv => whnf)); repeat (first | (refine cndT rfl ?_; (try (conv => whnf))) | (refine cndF rfl ?_; (try (conv => whnf))))))
    exact k2.1 _ _ T3 H3 (moreO_f nt c1) (.strength _) s3 e3
  | true =>
  obtain ⟨w, rfl, w1, w2⟩ := wholeV_int c1
  have at0 := moreO_k (w := w) nt
  obtain ⟨w0, hg⟩ := knotW_some e
  have tw : tieW W n m = w0 := by
    unfold tieW
    rw [e]
    show (getA W.kn (u', v')).getD 0 = _
    rw [hg]
    try rfl
  ((try (conv => whnf)); repeat (first | (refine cndT rfl ?_; (try (conv => whnf))) | (refine cndF rfl ?_; (try (conv => whnf)))))
  refine ixLk hs2.s (v := .ref d1) rfl ?_
  have g := DGet.t (k := kP (u', v')) hs2.kn eT
  rw [emb_val kP_inj, hg] at g
  refine ixD g ?_
  ((try (conv => whnf)); repeat (first | (refine cndT rfl ?_; (try (conv => whnf))) | (refine cndF rfl ?_; (try (conv => whnf)))))
  (refine cndB (fun c2 => ?_) (fun c2 => ?_) <;> (try simp only [Bool.not_eq_eq_eq_not, Bool.not_true, Bool.not_false, decide_eq_true_eq, decide_eq_false_iff_not, Int.not_le, Int.not_lt] at c2) <;> ((try (conv => whnf)); repeat (first | (refine cndT rfl ?_; (try (conv => whnf))) | (refine cndF rfl ?_; (try (conv => whnf))))))
  · rw [if_pos (.inr (by omega))] at at0
    refine ⟨by show 2 ≤ sizeLine; decide, ?_⟩
    (intro T3 nT3; generalize hG : _root_.L2.upd _ T3 _ = H3; have s3 := sameOf nT3 hG; have e3 := atOf hG; clear hG; ((try (conv => whnf)); repeat (first | (refine cndT rfl ?_; (try (conv => whnf))) | (refine cndF rfl ?_; (try (conv => whnf))))))
    exact k2.1 _ _ T3 H3 at0 (.strength _) s3 e3
  rw [if_neg (by rw [c1, tw]; simp; omega)] at at0
  refine ixLk hs2.s (v := .ref d1) rfl ?_
  refine ⟨d1, W.kn.map Prod.snd, rfl, .inr ⟨_, hs2.kn, emb_vals _ _⟩, ?_⟩
  ((try (conv => whnf)); repeat (first | (refine cndT rfl ?_; (try (conv => whnf))) | (refine cndF rfl ?_; (try (conv => whnf)))))
  refine ⟨⟨by decide, by decide, by decide⟩, ?_⟩
  ((try (conv => whnf)); repeat (first | (refine cndT rfl ?_; (try (conv => whnf))) | (refine cndF rfl ?_; (try (conv => whnf)))))
  (refine cndB (fun c3 => ?_) (fun c3 => ?_) <;> (try simp only [Bool.not_eq_eq_eq_not, Bool.not_true, Bool.not_false, decide_eq_true_eq, decide_eq_false_iff_not, Int.not_le, Int.not_lt] at c3) <;> ((try (conv => whnf)); repeat (first | (refine cndT rfl ?_; (try (conv => whnf))) | (refine cndF rfl ?_; (try (conv => whnf))))))
  · rw [show (10 : Int) ^ Int.toNat 9 = 1000000000 from rfl] at c3
    rw [if_pos (by unfold forceW; omega)] at at0
    refine ixLk hs2.s (v := .ref d1) rfl ?_
    refine ⟨d1, W.kn.map Prod.snd, rfl, .inr ⟨_, hs2.kn, emb_vals _ _⟩, ?_⟩
    ((try (conv => whnf)); repeat (first | (refine cndT rfl ?_; (try (conv => whnf))) | (refine cndF rfl ?_; (try (conv => whnf)))))
    refine ⟨by show 2 ≤ sizeLine; decide, ?_⟩
    (intro T3 nT3; generalize hG : _root_.L2.upd _ T3 _ = H3; have s3 := sameOf nT3 hG; have e3 := atOf hG; clear hG; ((try (conv => whnf)); repeat (first | (refine cndT rfl ?_; (try (conv => whnf))) | (refine cndF rfl ?_; (try (conv => whnf))))))
    exact k2.1 _ _ T3 H3 at0 (.beyond _) s3 e3
  · rw [show (10 : Int) ^ Int.toNat 9 = 1000000000 from rfl] at c3
    rw [if_neg (by unfold forceW; omega)] at at0
    exact k2.2 H2 at0 (Same.refl _)
theorem pure_l_fault {K a b H Q E} (h : P_l_fault K a b H Q E) : t_l_fault K E { nx := fun _ H' => Q .non H', rt := Q } [some a, some b, none] H := by
  obtain ⟨s, d0, d1, T, W, dv, rfl, hs, rfl, hT, hv, ow, ok, hl, hkl, k⟩ := h
  cases dv with
  | put b c =>
    obtain ⟨⟨⟨t, ht⟩, hz⟩, hzo⟩ := hv b (by simp [deedT])
    obtain ⟨⟨⟨u, hu⟩, _⟩, _⟩ := hv c (by simp [deedT])
    ((try (conv => whnf)); repeat (first | (refine cndT rfl ?_; (try (conv => whnf))) | (refine cndF rfl ?_; (try (conv => whnf)))))
    refine ixTk hT (v := .str "put") rfl ?_
    ((try (conv => whnf)); repeat (first | (refine cndT rfl ?_; (try (conv => whnf))) | (refine cndF rfl ?_; (try (conv => whnf)))))
    refine ixTk hT (v := b) rfl ?_
    refine ixTk hT (v := c) rfl ?_
    ((try (conv => whnf)); repeat (first | (refine cndT rfl ?_; (try (conv => whnf))) | (refine cndF rfl ?_; (try (conv => whnf)))))
    exact ⟨s, d0, d1, W, t, u, rfl, hs, ht, hu, fun z e => ⟨hz z e, hzo z e⟩, hl, k⟩
  | weigh b c =>
    obtain ⟨⟨⟨t, ht⟩, hz⟩, hzo⟩ := hv b (by simp [deedT])
    obtain ⟨⟨⟨u, hu⟩, _⟩, _⟩ := hv c (by simp [deedT])
    ((try (conv => whnf)); repeat (first | (refine cndT rfl ?_; (try (conv => whnf))) | (refine cndF rfl ?_; (try (conv => whnf)))))
    refine ixTk hT (v := .str "weigh") rfl ?_
    ((try (conv => whnf)); repeat (first | (refine cndT rfl ?_; (try (conv => whnf))) | (refine cndF rfl ?_; (try (conv => whnf)))))
    refine ixTk hT (v := .str "weigh") rfl ?_
    ((try (conv => whnf)); repeat (first | (refine cndT rfl ?_; (try (conv => whnf))) | (refine cndF rfl ?_; (try (conv => whnf)))))
    refine ixTk hT (v := b) rfl ?_
    refine ixTk hT (v := c) rfl ?_
    ((try (conv => whnf)); repeat (first | (refine cndT rfl ?_; (try (conv => whnf))) | (refine cndF rfl ?_; (try (conv => whnf)))))
    exact ⟨s, d0, d1, W, t, u, rfl, hs, ht, hu, hl, k⟩
  | drop b =>
    obtain ⟨⟨⟨t, ht⟩, hz⟩, hzo⟩ := hv b (by simp [deedT])
    ((try (conv => whnf)); repeat (first | (refine cndT rfl ?_; (try (conv => whnf))) | (refine cndF rfl ?_; (try (conv => whnf)))))
    refine ixTk hT (v := .str "drop") rfl ?_
    ((try (conv => whnf)); repeat (first | (refine cndT rfl ?_; (try (conv => whnf))) | (refine cndF rfl ?_; (try (conv => whnf)))))
    refine ixTk hT (v := .str "drop") rfl ?_
    ((try (conv => whnf)); repeat (first | (refine cndT rfl ?_; (try (conv => whnf))) | (refine cndF rfl ?_; (try (conv => whnf)))))
    refine ixTk hT (v := .str "drop") rfl ?_
    ((try (conv => whnf)); repeat (first | (refine cndT rfl ?_; (try (conv => whnf))) | (refine cndF rfl ?_; (try (conv => whnf)))))
    refine ixTk hT (v := b) rfl ?_
    rcases ht.str_or with ⟨n, rfl, rfl⟩ | ⟨nz, h1⟩
    · refine isiN ht (b := true) (by decide +kernel) ?_
      ((try (conv => whnf)); repeat (first | (refine cndT rfl ?_; (try (conv => whnf))) | (refine cndF rfl ?_; (try (conv => whnf)))))
      refine ixTk hT (v := .str n) rfl ?_
      ((try (conv => whnf)); repeat (first | (refine cndT rfl ?_; (try (conv => whnf))) | (refine cndF rfl ?_; (try (conv => whnf)))))
      refine ixLk hs.s (v := .ref d0) rfl ?_
      refine .inr ⟨d0, _, rfl, hs.get (K := K) n, ?_⟩
      rw [some_int]
      cases c0 : (getA W.hv n).isSome with
      | true =>
        ((try (conv => whnf)); repeat (first | (refine cndT rfl ?_; (try (conv => whnf))) | (refine cndF rfl ?_; (try (conv => whnf)))))
        exact k.2 H (placeO_str c0) (Same.refl _)
      | false =>
        ((try (conv => whnf)); repeat (first | (refine cndT rfl ?_; (try (conv => whnf))) | (refine cndF rfl ?_; (try (conv => whnf)))))
        refine ixTk hT (v := .str n) rfl ?_
        ((try (conv => whnf)); repeat (first | (refine cndT rfl ?_; (try (conv => whnf))) | (refine cndF rfl ?_; (try (conv => whnf)))))
        refine ⟨by show 2 ≤ sizeLine; decide, ?_⟩
        (intro T3 nT; generalize hG : _root_.L2.upd _ T3 _ = H3; have s3 := sameOf nT hG; have e3 := atOf hG; clear hG; ((try (conv => whnf)); repeat (first | (refine cndT rfl ?_; (try (conv => whnf))) | (refine cndF rfl ?_; (try (conv => whnf))))))
        exact k.1 _ _ T3 H3 (placeO_no c0) (.place _) s3 e3
    · refine isiN ht h1 ?_
      ((try (conv => whnf)); repeat (first | (refine cndT rfl ?_; (try (conv => whnf))) | (refine cndF rfl ?_; (try (conv => whnf)))))
      refine ixTk hT (v := b) rfl ?_
      ((try (conv => whnf)); repeat (first | (refine cndT rfl ?_; (try (conv => whnf))) | (refine cndF rfl ?_; (try (conv => whnf)))))
      refine ⟨by show 2 ≤ sizeLine; decide, ?_⟩
      (intro T3 nT; generalize hG : _root_.L2.upd _ T3 _ = H3; have s3 := sameOf nT hG; have e3 := atOf hG; clear hG; ((try (conv => whnf)); repeat (first | (refine cndT rfl ?_; (try (conv => whnf))) | (refine cndF rfl ?_; (try (conv => whnf))))))
      exact k.1 _ _ T3 H3 (placeO_non nz) (.place _) s3 e3
  | tie b c d =>
    obtain ⟨⟨⟨t, ht⟩, hz⟩, hzo⟩ := hv b (by simp [deedT])
    obtain ⟨⟨⟨u, hu⟩, _⟩, _⟩ := hv c (by simp [deedT])
    obtain ⟨⟨⟨v, hv'⟩, _⟩, _⟩ := hv d (by simp [deedT])
    ((try (conv => whnf)); repeat (first | (refine cndT rfl ?_; (try (conv => whnf))) | (refine cndF rfl ?_; (try (conv => whnf)))))
    refine ixTk hT (v := .str "tie") rfl ?_
    ((try (conv => whnf)); repeat (first | (refine cndT rfl ?_; (try (conv => whnf))) | (refine cndF rfl ?_; (try (conv => whnf)))))
    refine ixTk hT (v := .str "tie") rfl ?_
    ((try (conv => whnf)); repeat (first | (refine cndT rfl ?_; (try (conv => whnf))) | (refine cndF rfl ?_; (try (conv => whnf)))))
    refine ixTk hT (v := .str "tie") rfl ?_
    ((try (conv => whnf)); repeat (first | (refine cndT rfl ?_; (try (conv => whnf))) | (refine cndF rfl ?_; (try (conv => whnf)))))
    refine ixTk hT (v := .str "tie") rfl ?_
    ((try (conv => whnf)); repeat (first | (refine cndT rfl ?_; (try (conv => whnf))) | (refine cndF rfl ?_; (try (conv => whnf)))))
    refine ixTk hT (v := b) rfl ?_
    refine ixTk hT (v := c) rfl ?_
    refine ixTk hT (v := d) rfl ?_
    ((try (conv => whnf)); repeat (first | (refine cndT rfl ?_; (try (conv => whnf))) | (refine cndF rfl ?_; (try (conv => whnf)))))
    exact ⟨s, d0, d1, W, t, u, v, rfl, hs, ht, hu, hv', ow, ok, hkl, k⟩
  | more b c d =>
    obtain ⟨⟨⟨t, ht⟩, hz⟩, hzo⟩ := hv b (by simp [deedT])
    obtain ⟨⟨⟨u, hu⟩, _⟩, _⟩ := hv c (by simp [deedT])
    obtain ⟨⟨⟨v, hv'⟩, _⟩, _⟩ := hv d (by simp [deedT])
    ((try (conv => whnf)); repeat (first | (refine cndT rfl ?_; (try (conv => whnf))) | (refine cndF rfl ?_; (try (conv => whnf)))))
    refine ixTk hT (v := .str "more") rfl ?_
    ((try (conv => whnf)); repeat (first | (refine cndT rfl ?_; (try (conv => whnf))) | (refine cndF rfl ?_; (try (conv => whnf)))))
    refine ixTk hT (v := .str "more") rfl ?_
    ((try (conv => whnf)); repeat (first | (refine cndT rfl ?_; (try (conv => whnf))) | (refine cndF rfl ?_; (try (conv => whnf)))))
    refine ixTk hT (v := .str "more") rfl ?_
    ((try (conv => whnf)); repeat (first | (refine cndT rfl ?_; (try (conv => whnf))) | (refine cndF rfl ?_; (try (conv => whnf)))))
    refine ixTk hT (v := .str "more") rfl ?_
    ((try (conv => whnf)); repeat (first | (refine cndT rfl ?_; (try (conv => whnf))) | (refine cndF rfl ?_; (try (conv => whnf)))))
    refine ixTk hT (v := .str "more") rfl ?_
    ((try (conv => whnf)); repeat (first | (refine cndT rfl ?_; (try (conv => whnf))) | (refine cndF rfl ?_; (try (conv => whnf)))))
    refine ixTk hT (v := b) rfl ?_
    refine ixTk hT (v := c) rfl ?_
    refine ixTk hT (v := d) rfl ?_
    ((try (conv => whnf)); repeat (first | (refine cndT rfl ?_; (try (conv => whnf))) | (refine cndF rfl ?_; (try (conv => whnf)))))
    exact ⟨s, d0, d1, W, t, u, v, rfl, hs, ht, hu, hv', ow, ok, hkl, k⟩
  | untie b c =>
    obtain ⟨⟨⟨t, ht⟩, hz⟩, hzo⟩ := hv b (by simp [deedT])
    obtain ⟨⟨⟨u, hu⟩, _⟩, _⟩ := hv c (by simp [deedT])
    ((try (conv => whnf)); repeat (first | (refine cndT rfl ?_; (try (conv => whnf))) | (refine cndF rfl ?_; (try (conv => whnf)))))
    refine ixTk hT (v := .str "untie") rfl ?_
    ((try (conv => whnf)); repeat (first | (refine cndT rfl ?_; (try (conv => whnf))) | (refine cndF rfl ?_; (try (conv => whnf)))))
    refine ixTk hT (v := .str "untie") rfl ?_
    ((try (conv => whnf)); repeat (first | (refine cndT rfl ?_; (try (conv => whnf))) | (refine cndF rfl ?_; (try (conv => whnf)))))
    refine ixTk hT (v := .str "untie") rfl ?_
    ((try (conv => whnf)); repeat (first | (refine cndT rfl ?_; (try (conv => whnf))) | (refine cndF rfl ?_; (try (conv => whnf)))))
    refine ixTk hT (v := .str "untie") rfl ?_
    ((try (conv => whnf)); repeat (first | (refine cndT rfl ?_; (try (conv => whnf))) | (refine cndF rfl ?_; (try (conv => whnf)))))
    refine ixTk hT (v := .str "untie") rfl ?_
    ((try (conv => whnf)); repeat (first | (refine cndT rfl ?_; (try (conv => whnf))) | (refine cndF rfl ?_; (try (conv => whnf)))))
    refine ixTk hT (v := b) rfl ?_
    refine ixTk hT (v := c) rfl ?_
    ((try (conv => whnf)); repeat (first | (refine cndT rfl ?_; (try (conv => whnf))) | (refine cndF rfl ?_; (try (conv => whnf)))))
    refine ⟨s, d0, d1, W, t, u, rfl, hs, ht, hu, ⟨fun r tv T1 H1 e w s1 eT => ?_, fun H1 h2 s1 => ?_⟩⟩
    · ((try (conv => whnf)); repeat (first | (refine cndT rfl ?_; (try (conv => whnf))) | (refine cndF rfl ?_; (try (conv => whnf)))))
      refine ⟨rfl, ?_⟩
      ((try (conv => whnf)); repeat (first | (refine cndT rfl ?_; (try (conv => whnf))) | (refine cndF rfl ?_; (try (conv => whnf)))))
      exact k.1 _ _ T1 H1 (needTieO_two e) w s1 eT
    obtain ⟨n, m, rfl, rfl, hn, hm, ne⟩ := twoO_ok h2
    have k1 := k.mono s1
    have hs1 := hs.same s1
    have hT1 := s1 _ _ hT
    ((try (conv => whnf)); repeat (first | (refine cndT rfl ?_; (try (conv => whnf))) | (refine cndF rfl ?_; (try (conv => whnf)))))
    refine ⟨rfl, ?_⟩
    ((try (conv => whnf)); repeat (first | (refine cndT rfl ?_; (try (conv => whnf))) | (refine cndF rfl ?_; (try (conv => whnf)))))
    refine ixTk hT1 (v := .str n) rfl ?_
    refine ixTk hT1 (v := .str m) rfl ?_
    ((try (conv => whnf)); repeat (first | (refine cndT rfl ?_; (try (conv => whnf))) | (refine cndF rfl ?_; (try (conv => whnf)))))
    refine ⟨s, d0, d1, W, n, m, rfl, hs1, rfl, rfl, ow, pl_ok ok hn, pl_ok ok hm, ok, fun T2 u' v' H2 e s2 eT => ?_, fun H2 e s2 => ?_⟩
    · ((try (conv => whnf)); repeat (first | (refine cndT rfl ?_; (try (conv => whnf))) | (refine cndF rfl ?_; (try (conv => whnf)))))
      refine ⟨rfl, ?_⟩
      ((try (conv => whnf)); repeat (first | (refine cndT rfl ?_; (try (conv => whnf))) | (refine cndF rfl ?_; (try (conv => whnf)))))
      exact k1.2 H2 (needTieO_yes h2 e) s2
    · have hT2 := s2 _ _ hT1
      ((try (conv => whnf)); repeat (first | (refine cndT rfl ?_; (try (conv => whnf))) | (refine cndF rfl ?_; (try (conv => whnf)))))
      refine ⟨rfl, ?_⟩
      ((try (conv => whnf)); repeat (first | (refine cndT rfl ?_; (try (conv => whnf))) | (refine cndF rfl ?_; (try (conv => whnf)))))
      refine ixTk hT2 (v := .str n) rfl ?_
      refine ixTk hT2 (v := .str m) rfl ?_
      ((try (conv => whnf)); repeat (first | (refine cndT rfl ?_; (try (conv => whnf))) | (refine cndF rfl ?_; (try (conv => whnf)))))
      refine ⟨by show 3 ≤ sizeLine; decide, ?_⟩
      (intro T3 nT3; generalize hG : _root_.L2.upd _ T3 _ = H3; have s3 := sameOf nT3 hG; have e3 := atOf hG; clear hG; ((try (conv => whnf)); repeat (first | (refine cndT rfl ?_; (try (conv => whnf))) | (refine cndF rfl ?_; (try (conv => whnf))))))
      exact k1.1 _ _ T3 H3 (needTieO_no h2 e) (.notie _ _) (s2.trans s3) e3

end Wk12
namespace Wk12
open PySem L2 PySem.Spec PyProof.Rows Rf
theorem pure_l_any_name {K a b H Q E} (h : P_l_any_name K a b H Q E) : t_l_any_name K E { nx := fun _ H' => Q .non H', rt := Q } [some a, some b, none] H := by
  obtain ⟨s, d0, d1, p, W, i, j, rfl, hs, rfl, hS, hl, ok, hlen, q⟩ := h
  ((try (conv => whnf)); repeat (first | (refine cndT rfl ?_; (try (conv => whnf))) | (refine cndF rfl ?_; (try (conv => whnf)))))
  refine ixLk hs.s (v := .ref d0) rfl ?_
  left
  refine ⟨d0, _, rfl, hs.hv, ?_⟩
  (intro r nr; generalize hG : _root_.L2.upd _ r _ = G; have s1 := sameOf nr hG; have e1 := atOf hG; clear hG; ((try (conv => whnf)); repeat (first | (refine cndT rfl ?_; (try (conv => whnf))) | (refine cndF rfl ?_; (try (conv => whnf))))))
  have e1' : G r = some (.lst (W.hv.map fun e => V.str e.1)) := by rw [e1]; unfold emb; rw [List.map_map]; rfl
  clear e1
  have hS1 := s1.seq hS
  refine ixL hS1 (v := .int i) rfl ?_
  ((try (conv => whnf)); repeat (first | (refine cndT rfl ?_; (try (conv => whnf))) | (refine cndF rfl ?_; (try (conv => whnf)))))
  (refine cndB (fun c1 => ?_) (fun c1 => ?_) <;> (try simp only [Bool.not_eq_eq_eq_not, Bool.not_true, Bool.not_false, decide_eq_true_eq, decide_eq_false_iff_not, Int.not_le, Int.not_lt] at c1) <;> ((try (conv => whnf)); repeat (first | (refine cndT rfl ?_; (try (conv => whnf))) | (refine cndF rfl ?_; (try (conv => whnf))))))
  · refine ixL hS1 (v := .int j) rfl ?_
    ((try (conv => whnf)); repeat (first | (refine cndT rfl ?_; (try (conv => whnf))) | (refine cndF rfl ?_; (try (conv => whnf)))))
    exact ⟨j, rfl, fun v H' s2 h => q v H' (s1.trans s2) h⟩
  refine ixL hS1 (v := .int i) rfl ?_
  ((try (conv => whnf)); repeat (first | (refine cndT rfl ?_; (try (conv => whnf))) | (refine cndF rfl ?_; (try (conv => whnf)))))
  (refine cndB (fun c2 => ?_) (fun c2 => ?_) <;> (try simp only [Bool.not_eq_eq_eq_not, Bool.not_true, Bool.not_false, decide_eq_true_eq, decide_eq_false_iff_not, Int.not_le, Int.not_lt] at c2) <;> ((try (conv => whnf)); repeat (first | (refine cndT rfl ?_; (try (conv => whnf))) | (refine cndF rfl ?_; (try (conv => whnf))))))
  · refine ixL hS1 (v := .int j) rfl ?_
    ((try (conv => whnf)); repeat (first | (refine cndT rfl ?_; (try (conv => whnf))) | (refine cndF rfl ?_; (try (conv => whnf)))))
    exact ⟨j, rfl, fun z H' l o s2 => q _ H' (s1.trans s2) (.str (by omega) o)⟩
  refine ⟨by show 0 ≤ sizeLine; decide, ?_⟩
  (intro l2 n2; generalize hG : _root_.L2.upd _ l2 _ = H2; have s2 := sameOf n2 hG; have e2 := atOf hG; clear hG; ((try (conv => whnf)); repeat (first | (refine cndT rfl ?_; (try (conv => whnf))) | (refine cndF rfl ?_; (try (conv => whnf))))))
  have s12 := s1.trans s2
  have eR := s2 _ _ e1'
  refine eqDt (d := .list (W.hv.map fun e => PyData.str e.1)) (e := .list []) (b := W.hv.isEmpty) (.lst (SqL.of eR) (dpAll fun e _ => .str _)) (.lst (SqL.of e2) .nil) (shapedL fun d hd => ?_) rfl (by cases W.hv <;> rfl) ?_
  · obtain ⟨e, he, rfl⟩ := List.mem_map.mp hd
    exact ⟨ok.1 e he, Nat.zero_le _⟩
  cases hE : W.hv.isEmpty with
  | true =>
    ((try (conv => whnf)); repeat (first | (refine cndT rfl ?_; (try (conv => whnf))) | (refine cndF rfl ?_; (try (conv => whnf)))))
    refine ixL (s12.seq hS) (v := .int j) rfl ?_
    ((try (conv => whnf)); repeat (first | (refine cndT rfl ?_; (try (conv => whnf))) | (refine cndF rfl ?_; (try (conv => whnf)))))
    exact ⟨j, rfl, fun z H' l o s3 => q _ H' (s12.trans s3) (.str (by omega) o)⟩
  | false =>
    have hpos : 0 < W.hv.length := by
      cases hW : W.hv with
      | nil => rw [hW] at hE; cases hE
      | cons _ _ => simp
    ((try (conv => whnf)); repeat (first | (refine cndT rfl ?_; (try (conv => whnf))) | (refine cndF rfl ?_; (try (conv => whnf)))))
    refine ixL (s12.seq hS) (v := .int j) rfl ?_
    ((try (conv => whnf)); repeat (first | (refine cndT rfl ?_; (try (conv => whnf))) | (refine cndF rfl ?_; (try (conv => whnf)))))
    left
    refine ⟨_, SqL.of eR, ?_⟩
    rw [List.length_map]
    ((try (conv => whnf)); repeat (first | (refine cndT rfl ?_; (try (conv => whnf))) | (refine cndF rfl ?_; (try (conv => whnf)))))
    refine ⟨by omega, ?_⟩
    ((try (conv => whnf)); repeat (first | (refine cndT rfl ?_; (try (conv => whnf))) | (refine cndF rfl ?_; (try (conv => whnf)))))
    have h0 := Int.emod_nonneg j (show (W.hv.length : Int) ≠ 0 by omega)
    have h1 := Int.emod_lt_of_pos j (show (0 : Int) < W.hv.length by omega)
    refine ixIn (SqL.of eR) h0 (by rw [List.length_map]; exact h1) fun v hv => ?_
    obtain ⟨e, he, rfl⟩ := List.mem_map.mp hv
    exact q _ H2 s12 (.str (hlen e he) (ok.1 e he))
theorem sIx_nn {n d : Nat} {k : Nat} (h : k ≤ n) : HT.sIx n d (some (k : Int)) = k := by
  rw [HT.sIx_nat]
  omega
theorem slL {K : PySem.W.Frag} {H : Hp} {p : Addr} {xs : List V} {lo hi : Option Int} {Q : VK} (h : SqL K H p xs) (q : ∀ a, H a = none → Q (.ref a) (L2.upd H a (.lst (cutV xs lo hi)))) : rSlU K (.ref p) lo hi H Q := by
  unfold rSlU
  exact .inl ⟨p, xs, rfl, h, q⟩
theorem cutV_nn {xs : List V} {a b : Nat} (h : b ≤ xs.length) (hab : a ≤ b) : cutV xs (some (a : Int)) (some (b : Int)) = (xs.drop a).take (b - a) := by
  unfold cutV
  rw [sIx_nn (Nat.le_trans hab h), sIx_nn h]
theorem dpTs {K : PySem.W.Frag} {H : Hp} : ∀ {l : List ((Str × Str) × Int)} {bs : List Addr}, bs.length = l.length → (∀ (i : Nat) (e : (Str × Str) × Int), l[i]? = some e → ∃ b, bs[i]? = some b ∧ H b = some (.tup [.str e.1.1, .str e.1.2])) → DpAll K H (bs.map V.ref) (l.map fun e => PyData.tuple [.str e.1.1, .str e.1.2])
  | [], [], _, _ => .nil
  | [], _ :: _, h, _ => by cases h
  | _ :: _, [], h, _ => by cases h
  | e :: l, b :: bs, h, k => by
    obtain ⟨b', hb, ht⟩ := k 0 e rfl
    cases hb
    exact .cons (.tup (SqT.of ht) (.cons (.str _) (.cons (.str _) .nil))) (dpTs (Nat.succ.inj h) fun i e' he => k (i + 1) e' he)
theorem pure_l_drawn {K a b H Q E} (h : P_l_drawn K a b H Q E) : t_l_drawn K E { nx := fun _ H' => Q .non H', rt := Q } [some a, some b, none, none, none, none] H := by
  obtain ⟨s, d0, d1, p, W, i0, i1, i2, i3, i4, i5, i6, r, rfl, hs, rfl, hS, hr, j0, j1, hl, hkl, ok, hlen, hlk, q⟩ := h
  have g0 : atI (V.int i0 :: .int i1 :: .int i2 :: .int i3 :: .int i4 :: .int i5 :: .int i6 :: r) 0 = some (.int i0) := atI_nat (j := 0) rfl
  have g1 : atI (V.int i0 :: .int i1 :: .int i2 :: .int i3 :: .int i4 :: .int i5 :: .int i6 :: r) 1 = some (.int i1) := atI_nat (j := 1) rfl
  have g2 : atI (V.int i0 :: .int i1 :: .int i2 :: .int i3 :: .int i4 :: .int i5 :: .int i6 :: r) 2 = some (.int i2) := atI_nat (j := 2) rfl
  have hlr : 7 ≤ (V.int i0 :: .int i1 :: .int i2 :: .int i3 :: .int i4 :: .int i5 :: .int i6 :: r).length := by simp
  ((try (conv => whnf)); repeat (first | (refine cndT rfl ?_; (try (conv => whnf))) | (refine cndF rfl ?_; (try (conv => whnf)))))
  refine ⟨1, rfl, ?_⟩
  ((try (conv => whnf)); repeat (first | (refine cndT rfl ?_; (try (conv => whnf))) | (refine cndF rfl ?_; (try (conv => whnf)))))
  refine ⟨3, rfl, ?_⟩
  refine slL (hS) ?_
  rw [show cutV (V.int i0 :: .int i1 :: .int i2 :: .int i3 :: .int i4 :: .int i5 :: .int i6 :: r) (some 1) (some 3) = [.int i1, .int i2] from cutV_nn (a := 1) (b := 3) (by omega) (by decide)]
  (intro l1 n1; generalize hG : _root_.L2.upd _ l1 _ = H1; have s1 := sameOf n1 hG; have e1 := atOf hG; clear hG; ((try (conv => whnf)); repeat (first | (refine cndT rfl ?_; (try (conv => whnf))) | (refine cndF rfl ?_; (try (conv => whnf))))))
  refine ⟨s, d0, d1, l1, W, i1, i2, rfl, hs.same s1, rfl, SqL.of e1, hl, ok, hlen, fun v1 H2 s2 a1 => ?_⟩
  have s12 := s1.trans s2
  ((try (conv => whnf)); repeat (first | (refine cndT rfl ?_; (try (conv => whnf))) | (refine cndF rfl ?_; (try (conv => whnf)))))
  refine ⟨3, rfl, ?_⟩
  ((try (conv => whnf)); repeat (first | (refine cndT rfl ?_; (try (conv => whnf))) | (refine cndF rfl ?_; (try (conv => whnf)))))
  refine ⟨5, rfl, ?_⟩
  refine slL (s12.seq hS) ?_
  rw [show cutV (V.int i0 :: .int i1 :: .int i2 :: .int i3 :: .int i4 :: .int i5 :: .int i6 :: r) (some 3) (some 5) = [.int i3, .int i4] from cutV_nn (a := 3) (b := 5) (by omega) (by decide)]
  (intro l2 n2; generalize hG : _root_.L2.upd _ l2 _ = H3; have s3 := sameOf n2 hG; have e3 := atOf hG; clear hG; ((try (conv => whnf)); repeat (first | (refine cndT rfl ?_; (try (conv => whnf))) | (refine cndF rfl ?_; (try (conv => whnf))))))
  have s13 := s12.trans s3
  refine ⟨s, d0, d1, l2, W, i3, i4, rfl, hs.same s13, rfl, SqL.of e3, hl, ok, hlen, fun v2 H4 s4 a2 => ?_⟩
  have s14 := s13.trans s4
  ((try (conv => whnf)); repeat (first | (refine cndT rfl ?_; (try (conv => whnf))) | (refine cndF rfl ?_; (try (conv => whnf)))))
  refine ⟨5, rfl, ?_⟩
  ((try (conv => whnf)); repeat (first | (refine cndT rfl ?_; (try (conv => whnf))) | (refine cndF rfl ?_; (try (conv => whnf)))))
  refine ⟨7, rfl, ?_⟩
  refine slL (s14.seq hS) ?_
  rw [show cutV (V.int i0 :: .int i1 :: .int i2 :: .int i3 :: .int i4 :: .int i5 :: .int i6 :: r) (some 5) (some 7) = [.int i5, .int i6] from cutV_nn (a := 5) (b := 7) (by omega) (by decide)]
  (intro l3 n3; generalize hG : _root_.L2.upd _ l3 _ = H5; have s5 := sameOf n3 hG; have e5 := atOf hG; clear hG; ((try (conv => whnf)); repeat (first | (refine cndT rfl ?_; (try (conv => whnf))) | (refine cndF rfl ?_; (try (conv => whnf))))))
  have s15 := s14.trans s5
  refine ⟨l3, i5, i6, rfl, SqL.of e5, j0, j1, fun v3 H6 s6 a3 => ?_⟩
  have s16 := s15.trans s6
  have hs6 := hs.same s16
  have a1 := ((a1.mono (s3.trans s4)).mono s5).mono s6
  have a2 := (a2.mono s5).mono s6
  ((try (conv => whnf)); repeat (first | (refine cndT rfl ?_; (try (conv => whnf))) | (refine cndF rfl ?_; (try (conv => whnf)))))
  refine ixLk hs6.s (v := .ref d1) rfl ?_
  right
  refine ⟨d1, _, rfl, .inl hs6.kn, fun l bs nl hk => ?_⟩
  generalize hG : L2.upd _ l _ = H7
  have s7 := sameOf nl hG
  have e7 := atOf hG
  clear hG
  have s17 := s16.trans s7
  have hk2 : ∀ (i : Nat) (e : (Str × Str) × Int), W.kn[i]? = some e → ∃ b, bs[i]? = some b ∧ H7 b = some (.tup [.str e.1.1, .str e.1.2]) := fun i (e : (Str × Str) × Int) he => by
    obtain ⟨b, hb, hb2⟩ := paired_get hk (i := i) (a := (kP e.1, V.int e.2)) (by unfold emb; rw [List.getElem?_map, he]; rfl)
    exact ⟨b, hb, s7 _ _ hb2⟩
  have hbl : bs.length = W.kn.length := by rw [← Paired.length hk, emb_len]
  refine cutH (fun σ' H' => Same H7 H' ∧ ∃ v w, AnyW K H' v ∧ AnyW K H' w ∧ σ' = [some (.ref s), some (.ref p), some v, some w, some v3, some (.ref l)]) ?_ ?_
  · ((try (conv => whnf)); repeat (first | (refine cndT rfl ?_; (try (conv => whnf))) | (refine cndF rfl ?_; (try (conv => whnf)))))
    refine ⟨by show 0 ≤ sizeLine; decide, ?_⟩
    (intro l9 n9; generalize hG : _root_.L2.upd _ l9 _ = H8; have s8 := sameOf n9 hG; have e8 := atOf hG; clear hG; ((try (conv => whnf)); repeat (first | (refine cndT rfl ?_; (try (conv => whnf))) | (refine cndF rfl ?_; (try (conv => whnf))))))
    have b1 := (a1.mono s7).mono s8
    have b2 := (a2.mono s7).mono s8
    have hS8 := (s17.trans s8).seq hS
    have e7' := s8 _ _ e7
    refine neDt (d := .list (W.kn.map fun e => PyData.tuple [.str e.1.1, .str e.1.2])) (e := .list []) (b := W.kn.isEmpty) (.lst (SqL.of e7') (dpTs hbl fun i e he => (hk2 i e he).imp fun b h => ⟨h.1, s8 _ _ h.2⟩)) (.lst (SqL.of e8) .nil) (shapedL fun d hd => ?_) rfl (by cases W.kn <;> rfl) ?_
    · obtain ⟨e, he, rfl⟩ := List.mem_map.mp hd
      obtain ⟨o1, o2⟩ := ok.2 e he
      refine ⟨?_, ?_⟩
      · show (PyData.strOk e.1.1 && (PyData.strOk e.1.2 && true)) = true
        rw [o1, o2]
        try rfl
      · show 1 + Nat.max 0 (Nat.max 0 0) ≤ 60
        decide
    cases hE : W.kn.isEmpty with
    | true =>
      ((try (conv => whnf)); repeat (first | (refine cndT rfl ?_; (try (conv => whnf))) | (refine cndF rfl ?_; (try (conv => whnf)))))
      exact ⟨s8, v1, v2, b1, b2, rfl⟩
    | false =>
      have hpos : 0 < W.kn.length := by
        cases hW : W.kn with
        | nil => rw [hW] at hE; cases hE
        | cons _ _ => simp
      ((try (conv => whnf)); repeat (first | (refine cndT rfl ?_; (try (conv => whnf))) | (refine cndF rfl ?_; (try (conv => whnf)))))
      refine ixL hS8 (v := .int i0) g0 ?_
      ((try (conv => whnf)); repeat (first | (refine cndT rfl ?_; (try (conv => whnf))) | (refine cndF rfl ?_; (try (conv => whnf)))))
      (refine cndB (fun c1 => ?_) (fun c1 => ?_) <;> (try simp only [Bool.not_eq_eq_eq_not, Bool.not_true, Bool.not_false, decide_eq_true_eq, decide_eq_false_iff_not, Int.not_le, Int.not_lt] at c1) <;> ((try (conv => whnf)); repeat (first | (refine cndT rfl ?_; (try (conv => whnf))) | (refine cndF rfl ?_; (try (conv => whnf))))))
      · refine ixL hS8 (v := .int i1) g1 ?_
        ((try (conv => whnf)); repeat (first | (refine cndT rfl ?_; (try (conv => whnf))) | (refine cndF rfl ?_; (try (conv => whnf)))))
        (refine cndB (fun c2 => ?_) (fun c2 => ?_) <;> (try simp only [Bool.not_eq_eq_eq_not, Bool.not_true, Bool.not_false, decide_eq_true_eq, decide_eq_false_iff_not, Int.not_le, Int.not_lt] at c2) <;> ((try (conv => whnf)); repeat (first | (refine cndT rfl ?_; (try (conv => whnf))) | (refine cndF rfl ?_; (try (conv => whnf))))))
        · refine ixL hS8 (v := .int i2) g2 ?_
          ((try (conv => whnf)); repeat (first | (refine cndT rfl ?_; (try (conv => whnf))) | (refine cndF rfl ?_; (try (conv => whnf)))))
          left
          refine ⟨_, SqL.of e7', ?_⟩
          rw [List.length_map, hbl]
          ((try (conv => whnf)); repeat (first | (refine cndT rfl ?_; (try (conv => whnf))) | (refine cndF rfl ?_; (try (conv => whnf)))))
          refine ⟨by omega, ?_⟩
          ((try (conv => whnf)); repeat (first | (refine cndT rfl ?_; (try (conv => whnf))) | (refine cndF rfl ?_; (try (conv => whnf)))))
          have h0 := Int.emod_nonneg i2 (show (W.kn.length : Int) ≠ 0 by omega)
          have h1 := Int.emod_lt_of_pos i2 (show (0 : Int) < W.kn.length by omega)
          refine ixIn (SqL.of e7') h0 (by rw [List.length_map, hbl]; exact h1) fun v hv => ?_
          obtain ⟨b, hb, rfl⟩ := List.mem_map.mp hv
          obtain ⟨n, hn, en⟩ := List.getElem_of_mem hb
          obtain ⟨e, he⟩ : ∃ e, W.kn[n]? = some e := ⟨W.kn[n]'(by omega), List.getElem?_eq_getElem (by omega)⟩
          obtain ⟨b', hb', hbt⟩ := hk2 n e he
          have eb : b' = b := by
            rw [List.getElem?_eq_getElem hn, en] at hb'
            exact (Option.some.inj hb').symm
          subst eb
          have hm := List.mem_of_getElem? he
          refine ⟨b', _, rfl, SqT.of (s8 _ _ hbt), rfl, _, _, rfl, _, _, rfl, rfl, ?_⟩
          ((try (conv => whnf)); repeat (first | (refine cndT rfl ?_; (try (conv => whnf))) | (refine cndF rfl ?_; (try (conv => whnf)))))
          refine ixL hS8 (v := .int i0) g0 ?_
          ((try (conv => whnf)); repeat (first | (refine cndT rfl ?_; (try (conv => whnf))) | (refine cndF rfl ?_; (try (conv => whnf)))))
          refine ⟨by decide, ?_⟩
          ((try (conv => whnf)); repeat (first | (refine cndT rfl ?_; (try (conv => whnf))) | (refine cndF rfl ?_; (try (conv => whnf)))))
          (refine cndB (fun c3 => ?_) (fun c3 => ?_) <;> (try simp only [Bool.not_eq_eq_eq_not, Bool.not_true, Bool.not_false, decide_eq_true_eq, decide_eq_false_iff_not, Int.not_le, Int.not_lt] at c3) <;> ((try (conv => whnf)); repeat (first | (refine cndT rfl ?_; (try (conv => whnf))) | (refine cndF rfl ?_; (try (conv => whnf))))))
          · refine ⟨_, _, rfl, ?_⟩
            exact ⟨s8, .str e.1.2, .str e.1.1, .str (hlk e hm).2 (ok.2 e hm).2, .str (hlk e hm).1 (ok.2 e hm).1, rfl⟩
          · exact ⟨s8, .str e.1.1, .str e.1.2, .str (hlk e hm).1 (ok.2 e hm).1, .str (hlk e hm).2 (ok.2 e hm).2, rfl⟩
        · exact ⟨s8, v1, v2, b1, b2, rfl⟩
      · exact ⟨s8, v1, v2, b1, b2, rfl⟩
  · rintro σ H9 ⟨s9, v, w, av, aw, rfl⟩
    have s19 := s17.trans s9
    have hS9 := s19.seq hS
    have a9 := (a3.mono s7).mono s9
    have tg : ∀ (z : Str) (H' : Hp), z.length ≤ 20000 → PyData.strOk z = true → AnyW K H' (.str z) := fun z H' h1 h2 => .str h1 h2
    ((try (conv => whnf)); repeat (first | (refine cndT rfl ?_; (try (conv => whnf))) | (refine cndF rfl ?_; (try (conv => whnf)))))
    refine ixL hS9 (v := .int i0) g0 ?_
    ((try (conv => whnf)); repeat (first | (refine cndT rfl ?_; (try (conv => whnf))) | (refine cndF rfl ?_; (try (conv => whnf)))))
    (refine cndB (fun c1 => ?_) (fun c1 => ?_) <;> (try simp only [Bool.not_eq_eq_eq_not, Bool.not_true, Bool.not_false, decide_eq_true_eq, decide_eq_false_iff_not, Int.not_le, Int.not_lt] at c1) <;> ((try (conv => whnf)); repeat (first | (refine cndT rfl ?_; (try (conv => whnf))) | (refine cndF rfl ?_; (try (conv => whnf))))))
    · refine ⟨by show 3 ≤ sizeLine; decide, ?_⟩
      (intro T nT; generalize hG : _root_.L2.upd _ T _ = G; have sG := sameOf nT hG; have eG := atOf hG; clear hG; ((try (conv => whnf)); repeat (first | (refine cndT rfl ?_; (try (conv => whnf))) | (refine cndF rfl ?_; (try (conv => whnf))))))
      refine q (.put v v3) T G (s19.trans sG) eG fun u hu => ?_
      simp only [deedT, List.mem_cons, List.not_mem_nil, or_false] at hu
      rcases hu with rfl | rfl | rfl
      · exact tg _ G (by decide +kernel) (by decide +kernel)
      · exact av.mono sG
      · exact a9.mono sG
    refine ixL hS9 (v := .int i0) g0 ?_
    ((try (conv => whnf)); repeat (first | (refine cndT rfl ?_; (try (conv => whnf))) | (refine cndF rfl ?_; (try (conv => whnf)))))
    (refine cndB (fun c2 => ?_) (fun c2 => ?_) <;> (try simp only [Bool.not_eq_eq_eq_not, Bool.not_true, Bool.not_false, decide_eq_true_eq, decide_eq_false_iff_not, Int.not_le, Int.not_lt] at c2) <;> ((try (conv => whnf)); repeat (first | (refine cndT rfl ?_; (try (conv => whnf))) | (refine cndF rfl ?_; (try (conv => whnf))))))
    · refine ⟨by show 3 ≤ sizeLine; decide, ?_⟩
      (intro T nT; generalize hG : _root_.L2.upd _ T _ = G; have sG := sameOf nT hG; have eG := atOf hG; clear hG; ((try (conv => whnf)); repeat (first | (refine cndT rfl ?_; (try (conv => whnf))) | (refine cndF rfl ?_; (try (conv => whnf))))))
      refine q (.weigh v v3) T G (s19.trans sG) eG fun u hu => ?_
      simp only [deedT, List.mem_cons, List.not_mem_nil, or_false] at hu
      rcases hu with rfl | rfl | rfl
      · exact tg _ G (by decide +kernel) (by decide +kernel)
      · exact av.mono sG
      · exact a9.mono sG
    refine ixL hS9 (v := .int i0) g0 ?_
    ((try (conv => whnf)); repeat (first | (refine cndT rfl ?_; (try (conv => whnf))) | (refine cndF rfl ?_; (try (conv => whnf)))))
    (refine cndB (fun c3 => ?_) (fun c3 => ?_) <;> (try simp only [Bool.not_eq_eq_eq_not, Bool.not_true, Bool.not_false, decide_eq_true_eq, decide_eq_false_iff_not, Int.not_le, Int.not_lt] at c3) <;> ((try (conv => whnf)); repeat (first | (refine cndT rfl ?_; (try (conv => whnf))) | (refine cndF rfl ?_; (try (conv => whnf))))))
    · refine ⟨by show 2 ≤ sizeLine; decide, ?_⟩
      (intro T nT; generalize hG : _root_.L2.upd _ T _ = G; have sG := sameOf nT hG; have eG := atOf hG; clear hG; ((try (conv => whnf)); repeat (first | (refine cndT rfl ?_; (try (conv => whnf))) | (refine cndF rfl ?_; (try (conv => whnf))))))
      refine q (.drop v) T G (s19.trans sG) eG fun u hu => ?_
      simp only [deedT, List.mem_cons, List.not_mem_nil, or_false] at hu
      rcases hu with rfl | rfl
      · exact tg _ G (by decide +kernel) (by decide +kernel)
      · exact av.mono sG
    have tie_ : ∀ T G, Same H9 G → G T = some (.tup [.str "tie", v, w, v3]) → Q (.ref T) G := fun T G sG eG => by
      refine q (.tie v w v3) T G (s19.trans sG) eG fun u hu => ?_
      simp only [deedT, List.mem_cons, List.not_mem_nil, or_false] at hu
      rcases hu with rfl | rfl | rfl | rfl
      · exact tg _ G (by decide +kernel) (by decide +kernel)
      · exact av.mono sG
      · exact aw.mono sG
      · exact a9.mono sG
    refine ixL hS9 (v := .int i0) g0 ?_
    ((try (conv => whnf)); repeat (first | (refine cndT rfl ?_; (try (conv => whnf))) | (refine cndF rfl ?_; (try (conv => whnf)))))
    (refine cndB (fun c4 => ?_) (fun c4 => ?_) <;> (try simp only [Bool.not_eq_eq_eq_not, Bool.not_true, Bool.not_false, decide_eq_true_eq, decide_eq_false_iff_not, Int.not_le, Int.not_lt] at c4) <;> ((try (conv => whnf)); repeat (first | (refine cndT rfl ?_; (try (conv => whnf))) | (refine cndF rfl ?_; (try (conv => whnf))))))
    · refine ⟨by show 4 ≤ sizeLine; decide, ?_⟩
      (intro T nT; generalize hG : _root_.L2.upd _ T _ = G; have sG := sameOf nT hG; have eG := atOf hG; clear hG; ((try (conv => whnf)); repeat (first | (refine cndT rfl ?_; (try (conv => whnf))) | (refine cndF rfl ?_; (try (conv => whnf))))))
      exact tie_ T G sG eG
    refine ixL hS9 (v := .int i0) g0 ?_
    ((try (conv => whnf)); repeat (first | (refine cndT rfl ?_; (try (conv => whnf))) | (refine cndF rfl ?_; (try (conv => whnf)))))
    (refine cndB (fun c5 => ?_) (fun c5 => ?_) <;> (try simp only [Bool.not_eq_eq_eq_not, Bool.not_true, Bool.not_false, decide_eq_true_eq, decide_eq_false_iff_not, Int.not_le, Int.not_lt] at c5) <;> ((try (conv => whnf)); repeat (first | (refine cndT rfl ?_; (try (conv => whnf))) | (refine cndF rfl ?_; (try (conv => whnf))))))
    · refine ⟨by show 4 ≤ sizeLine; decide, ?_⟩
      (intro T nT; generalize hG : _root_.L2.upd _ T _ = G; have sG := sameOf nT hG; have eG := atOf hG; clear hG; ((try (conv => whnf)); repeat (first | (refine cndT rfl ?_; (try (conv => whnf))) | (refine cndF rfl ?_; (try (conv => whnf))))))
      exact tie_ T G sG eG
    refine ixL hS9 (v := .int i0) g0 ?_
    ((try (conv => whnf)); repeat (first | (refine cndT rfl ?_; (try (conv => whnf))) | (refine cndF rfl ?_; (try (conv => whnf)))))
    (refine cndB (fun c6 => ?_) (fun c6 => ?_) <;> (try simp only [Bool.not_eq_eq_eq_not, Bool.not_true, Bool.not_false, decide_eq_true_eq, decide_eq_false_iff_not, Int.not_le, Int.not_lt] at c6) <;> ((try (conv => whnf)); repeat (first | (refine cndT rfl ?_; (try (conv => whnf))) | (refine cndF rfl ?_; (try (conv => whnf))))))
    · refine ⟨by show 3 ≤ sizeLine; decide, ?_⟩
      (intro T nT; generalize hG : _root_.L2.upd _ T _ = G; have sG := sameOf nT hG; have eG := atOf hG; clear hG; ((try (conv => whnf)); repeat (first | (refine cndT rfl ?_; (try (conv => whnf))) | (refine cndF rfl ?_; (try (conv => whnf))))))
      refine q (.untie v w) T G (s19.trans sG) eG fun u hu => ?_
      simp only [deedT, List.mem_cons, List.not_mem_nil, or_false] at hu
      rcases hu with rfl | rfl | rfl
      · exact tg _ G (by decide +kernel) (by decide +kernel)
      · exact av.mono sG
      · exact aw.mono sG
    · refine ⟨by show 4 ≤ sizeLine; decide, ?_⟩
      (intro T nT; generalize hG : _root_.L2.upd _ T _ = G; have sG := sameOf nT hG; have eG := atOf hG; clear hG; ((try (conv => whnf)); repeat (first | (refine cndT rfl ?_; (try (conv => whnf))) | (refine cndF rfl ?_; (try (conv => whnf))))))
      refine q (.more v w v3) T G (s19.trans sG) eG fun u hu => ?_
      simp only [deedT, List.mem_cons, List.not_mem_nil, or_false] at hu
      rcases hu with rfl | rfl | rfl | rfl
      · exact tg _ G (by decide +kernel) (by decide +kernel)
      · exact av.mono sG
      · exact aw.mono sG
      · exact a9.mono sG

end Wk12
namespace Wk12
open PySem L2 PySem.Spec PyProof.Rows Rf
theorem AnyV.okI {K H v} (h : AnyV K H v) : okI v = true := by
  obtain ⟨⟨t, ht⟩, _⟩ := h
  cases v <;> first | rfl | exact False.elim ht
def noPl (b : V) : Str × List (Str × V) := ("NoPlace", [("found", b)])
theorem placeO_eq {W : WebS} {b : V} {r : Str × List (Str × V)} (h : placeO W b = some r) : r = noPl b := by
  unfold placeO at h
  split at h
  · split at h
    · cases h
    · cases h
      rfl
  · cases h
    rfl
theorem refW_place {b : V} {tv : List V} {r : Str × List (Str × V)} (w : RefW r tv) (h : r = noPl b) : tv = [.str "place", b] := by
  cases w <;> first | (cases h; done) | skip
  cases h
  rfl
theorem askO_r {W : WebS} {w : Int} {c d : V} {r : Str × List (Str × V)} (h : askO W w c d = some r) : ∃ b, (b = c ∨ b = d) ∧ r = noPl b := by
  unfold askO at h
  split at h
  · unfold bothO at h
    split at h
    · rename_i h1
      cases h
      exact ⟨c, .inl rfl, placeO_eq h1⟩
    · exact ⟨d, .inr rfl, placeO_eq h⟩
  · exact ⟨c, .inl rfl, placeO_eq h⟩
theorem pure_l_asked {K a b c d H Q E} (h : P_l_asked K a b c d H Q E) : t_l_asked K E { nx := fun _ H' => Q .non H', rt := Q } [some a, some b, some c, some d, none] H := by
  unfold P_l_asked at h
  obtain ⟨x, p, q, W, w, rfl, ek, hw, rfl, hww, ⟨⟨tc, htc⟩, hzc⟩, ⟨⟨td, htd⟩, hzd⟩, nd, hl, k⟩ := h
  obtain ⟨dx, ho⟩ := hw.o
  have catch_ : ∀ {ts : Addr → Value → Option Addr → TS} {Wo : WX} {D : Ends} {σ : L2.St} {r : Str × List (Str × V)} {H1 : Hp}, askO W w c d = some r → Same H H1 → (∀ a d H2 tv, Same H H2 → RefW r tv → H2 d = some (.xd r.2) → ts a (.ref (He.ga K r.1)) (some d) { nx := fun σ' H' => D.nx (σ'.set 4 none) H', rt := D.rt, bk := fun σ' H' => D.bk (σ'.set 4 none) H', ct := fun σ' H' => D.ct (σ'.set 4 none) H' } (σ.set 4 (some (.ref a))) H2) →
      Rz K (eW (wAs K (.ref (He.ga K "CutError")) 4 ts Wo D) σ) H1 r := by
    intro ts Wo D σ r H1 hr s1 hts d H2 nd s2 e2
    obtain ⟨b, _, rfl⟩ := askO_r hr
    obtain ⟨f, hf⟩ := refW_err (.place b)
    exact ⟨true, ek.exm _ hf, fun _ a na => hts a d H2 _ (s1.trans s2) (.place b) e2, fun z => nomatch z⟩
  have su : ∀ (a d' : Addr) (H2 : Hp) (tv : List V) (r : Str × List (Str × V)) (D : Ends), askO W w c d = some r → Same H H2 → RefW r tv → H2 d' = some (.xd r.2) → D.rt = Q → tRet (tCallE (spE_l_named K a (.ref (He.ga K r.1)) (some d')) (tCons (tV 4) tNil)) D [some (.ref x), some (.int w), some c, some d, some (.ref a)] H2 := by
    intro a d' H2 tv r D hr s2 w' e2 hD
    ((try (conv => whnf)); repeat (first | (refine cndT rfl ?_; (try (conv => whnf))) | (refine cndF rfl ?_; (try (conv => whnf)))))
    rw [hD]
    exact ⟨r, tv, d', rfl, ek, w', rfl, rfl, e2, fun T H3 s3 e3 => k.1 r tv T H3 hr w' (s2.trans s3) e3⟩
  rcases hww with rfl | rfl | rfl
  · ((try (conv => whnf)); repeat (first | (refine cndT rfl ?_; (try (conv => whnf))) | (refine cndF rfl ?_; (try (conv => whnf)))))
    refine ⟨x, dx, _, rfl, ho, webF_n (by decide +kernel) (by decide +kernel), ?_⟩
    ((try (conv => whnf)); repeat (first | (refine cndT rfl ?_; (try (conv => whnf))) | (refine cndF rfl ?_; (try (conv => whnf)))))
    refine ⟨x, p, q, W, tc, rfl, ek, hw.r, htc, fun r hr => catch_ hr (Same.refl _) fun a d H2 tv s2 w e2 => su a d H2 tv r _ hr s2 w e2 rfl, fun n v en hg => ?_⟩
    subst en
    ((try (conv => whnf)); repeat (first | (refine cndT rfl ?_; (try (conv => whnf))) | (refine cndF rfl ?_; (try (conv => whnf)))))
    exact k.2 H (placeO_str (by rw [hg]; rfl)) (Same.refl _)
  · ((try (conv => whnf)); repeat (first | (refine cndT rfl ?_; (try (conv => whnf))) | (refine cndF rfl ?_; (try (conv => whnf)))))
    refine ⟨x, dx, _, rfl, ho, webF_n (by decide +kernel) (by decide +kernel), ?_⟩
    ((try (conv => whnf)); repeat (first | (refine cndT rfl ?_; (try (conv => whnf))) | (refine cndF rfl ?_; (try (conv => whnf)))))
    refine ⟨x, p, q, W, tc, rfl, ek, hw, htc, nd, hl, fun r hr => catch_ hr (Same.refl _) fun a d H2 tv s2 w e2 => su a d H2 tv r _ hr s2 w e2 rfl, fun n en hn f H' nf s1 ef => ?_⟩
    subst en
    ((try (conv => whnf)); repeat (first | (refine cndT rfl ?_; (try (conv => whnf))) | (refine cndF rfl ?_; (try (conv => whnf)))))
    exact k.2 H' (placeO_str hn) s1
  · ((try (conv => whnf)); repeat (first | (refine cndT rfl ?_; (try (conv => whnf))) | (refine cndF rfl ?_; (try (conv => whnf)))))
    refine ⟨x, dx, _, rfl, ho, webF_n (by decide +kernel) (by decide +kernel), ?_⟩
    ((try (conv => whnf)); repeat (first | (refine cndT rfl ?_; (try (conv => whnf))) | (refine cndF rfl ?_; (try (conv => whnf)))))
    refine ⟨x, p, q, W, tc, td, rfl, ek, hw.r, htc, htd, fun r hr => catch_ hr (Same.refl _) fun a d H2 tv s2 w e2 => su a d H2 tv r _ hr s2 w e2 rfl, fun n m en em hb H' s1 => ?_⟩
    subst en em
    ((try (conv => whnf)); repeat (first | (refine cndT rfl ?_; (try (conv => whnf))) | (refine cndF rfl ?_; (try (conv => whnf)))))
    exact k.2 H' hb s1
def firstBad (W : WebS) : List V → RefO
  | [] => none
  | v :: l => match placeO W v with
    | some r => some r
    | none => firstBad W l
theorem firstBad_snoc {W : WebS} {l : List V} {v : V} : firstBad W (l ++ [v]) = match firstBad W l with
    | some r => some r
    | none => placeO W v := by
  induction l with
  | nil =>
    show (match placeO W v with | some r => some r | none => none) = placeO W v
    cases placeO W v <;> rfl
  | cons u l ih =>
    show (match placeO W u with | some r => some r | none => firstBad W (l ++ [v])) = _
    rw [ih]
    show _ = match (match placeO W u with | some r => some r | none => firstBad W l) with | some r => some r | none => placeO W v
    cases placeO W u <;> rfl
theorem pure_l_questions {K a b c d H Q E} (h : P_l_questions K a b c d H Q E) : t_l_questions K E { nx := fun _ H' => Q .non H', rt := Q } [some a, some b, some c, some d, none, none, none] H := by
  obtain ⟨x, p, q, s, d0, d1, W, rfl, ek, hw, rfl, hs, ac, ad, nd, hl, k⟩ := h
  ((try (conv => whnf)); repeat (first | (refine cndT rfl ?_; (try (conv => whnf))) | (refine cndF rfl ?_; (try (conv => whnf)))))
  refine ⟨3, rfl, by decide, by decide, ?_⟩
  refine forR (fun i σ H' => Same H H' ∧ ∃ v4 v5 v6 : Option V, σ = [some (.ref x), some (.ref s), some c, some d, v4, v5, v6]) ⟨Same.refl _, _, _, _, rfl⟩ ?_ ?_
  · rintro i σ H1 hi ⟨s1, v4, v5, v6, rfl⟩
    have hi' : i < 3 := hi
    have hw1 := hw.same s1
    have hs1 := hs.same s1
    ((try (conv => whnf)); repeat (first | (refine cndT rfl ?_; (try (conv => whnf))) | (refine cndF rfl ?_; (try (conv => whnf)))))
    left
    ((try (conv => whnf)); repeat (first | (refine cndT rfl ?_; (try (conv => whnf))) | (refine cndF rfl ?_; (try (conv => whnf)))))
    refine ⟨by show 2 ≤ sizeLine; decide, ?_⟩
    (intro l nl; generalize hG : _root_.L2.upd _ l _ = H2; have s2 := sameOf nl hG; have e2 := atOf hG; clear hG; ((try (conv => whnf)); repeat (first | (refine cndT rfl ?_; (try (conv => whnf))) | (refine cndF rfl ?_; (try (conv => whnf))))))
    refine ⟨_, rfl, slL (SqL.of e2) ?_⟩
    have hx : ∃ xs : List V, cutV [c, d] none (some (1 + if decide ((0 : Int) + (i : Int) = 2) = true then 1 else 0)) = xs ∧ firstBad W xs = askO W (0 + (i : Int)) c d ∧ ∀ v ∈ xs, AnyV K H v := by
      have one : firstBad W [c] = placeO W c := firstBad_snoc (l := [])
      have two : firstBad W [c, d] = bothO W c d := by
        rw [show [c, d] = [c] ++ [d] from rfl, firstBad_snoc, one]
        try rfl
      rcases (show i = 0 ∨ i = 1 ∨ i = 2 by omega) with rfl | rfl | rfl
      · exact ⟨[c], rfl, one, fun v hv => by rw [List.mem_singleton.mp hv]; exact ac⟩
      · exact ⟨[c], rfl, one, fun v hv => by rw [List.mem_singleton.mp hv]; exact ac⟩
      · refine ⟨[c, d], rfl, two, fun v hv => ?_⟩
        simp only [List.mem_cons, List.not_mem_nil, or_false] at hv
        rcases hv with rfl | rfl
        · exact ac
        · exact ad
    obtain ⟨xs, ex, hx, ax⟩ := hx
    rw [ex]
    (intro l2 n2; generalize hG : _root_.L2.upd _ l2 _ = H3; have s3 := sameOf n2 hG; have e3 := atOf hG; clear hG; ((try (conv => whnf)); repeat (first | (refine cndT rfl ?_; (try (conv => whnf))) | (refine cndF rfl ?_; (try (conv => whnf))))))
    have s13 := (s1.trans s2).trans s3
    left
    refine ⟨_, SqL.of e3, ?_⟩
    refine forL (SqL.of e3) (fun j σ H' => Same H3 H' ∧ ∃ (due : V) (v6 : Option V), σ = [some (.ref x), some (.ref s), some c, some d, some (.int (0 + (i : Int))), some due, v6] ∧ ((firstBad W (xs.take j) = none ∧ due = .non) ∨ ∃ u T, AnyV K H u ∧ firstBad W (xs.take j) = some (noPl u) ∧ due = .ref T ∧ H' T = some (.tup [.str "place", u]))) ⟨Same.refl _, .non, _, rfl, .inl ⟨rfl, rfl⟩⟩ ?_ ?_ ?_
    · rintro j σ H' _ ⟨sx, _⟩
      exact SqL.of (sx _ _ e3)
    · rintro j y σ H4 hy ⟨sx, due, v6, rfl, hd⟩
      have ay := ax y (List.mem_of_getElem? hy)
      have e : xs.take (j + 1) = xs.take j ++ [y] := by rw [List.take_add_one, hy]; rfl
      have fs := firstBad_snoc (W := W) (l := xs.take j) (v := y)
      rw [← e] at fs
      have sH := s13.trans sx
      have hsH := hs.same sH
      rcases hd with ⟨h0, rfl⟩ | ⟨u, T, au, h0, rfl, hT⟩
      · rw [h0] at fs
        replace fs : firstBad W (xs.take (j + 1)) = placeO W y := fs
        ((try (conv => whnf)); repeat (first | (refine cndT rfl ?_; (try (conv => whnf))) | (refine cndF rfl ?_; (try (conv => whnf)))))
        refine ⟨rfl, ?_⟩
        ((try (conv => whnf)); repeat (first | (refine cndT rfl ?_; (try (conv => whnf))) | (refine cndF rfl ?_; (try (conv => whnf)))))
        obtain ⟨⟨t, ht⟩, _⟩ := ay.mono sH
        rcases ht.str_or with ⟨n, rfl, rfl⟩ | ⟨nz, h1⟩
        · refine isiN ht (b := true) (by decide +kernel) ?_
          ((try (conv => whnf)); repeat (first | (refine cndT rfl ?_; (try (conv => whnf))) | (refine cndF rfl ?_; (try (conv => whnf)))))
          refine ixLk hsH.s (v := .ref d0) rfl ?_
          refine .inr ⟨d0, _, rfl, hsH.get (K := K) n, ?_⟩
          rw [some_int]
          cases c0 : (getA W.hv n).isSome with
          | true =>
            ((try (conv => whnf)); repeat (first | (refine cndT rfl ?_; (try (conv => whnf))) | (refine cndF rfl ?_; (try (conv => whnf)))))
            exact ⟨sx, .non, _, rfl, .inl ⟨fs.trans (placeO_str c0), rfl⟩⟩
          | false =>
            ((try (conv => whnf)); repeat (first | (refine cndT rfl ?_; (try (conv => whnf))) | (refine cndF rfl ?_; (try (conv => whnf)))))
            refine ⟨by show 2 ≤ sizeLine; decide, ?_⟩
            (intro T nT; generalize hG : _root_.L2.upd _ T _ = H5; have s5 := sameOf nT hG; have e5 := atOf hG; clear hG; ((try (conv => whnf)); repeat (first | (refine cndT rfl ?_; (try (conv => whnf))) | (refine cndF rfl ?_; (try (conv => whnf))))))
            exact ⟨sx.trans s5, .ref T, _, rfl, .inr ⟨_, T, ay, fs.trans (placeO_no c0), rfl, e5⟩⟩
        · refine isiN ht h1 ?_
          ((try (conv => whnf)); repeat (first | (refine cndT rfl ?_; (try (conv => whnf))) | (refine cndF rfl ?_; (try (conv => whnf)))))
          refine ⟨by show 2 ≤ sizeLine; decide, ?_⟩
          (intro T nT; generalize hG : _root_.L2.upd _ T _ = H5; have s5 := sameOf nT hG; have e5 := atOf hG; clear hG; ((try (conv => whnf)); repeat (first | (refine cndT rfl ?_; (try (conv => whnf))) | (refine cndF rfl ?_; (try (conv => whnf))))))
          exact ⟨sx.trans s5, .ref T, _, rfl, .inr ⟨_, T, ay, fs.trans (placeO_non nz), rfl, e5⟩⟩
      · rw [h0] at fs
        ((try (conv => whnf)); repeat (first | (refine cndT rfl ?_; (try (conv => whnf))) | (refine cndF rfl ?_; (try (conv => whnf)))))
        refine ⟨rfl, ?_⟩
        ((try (conv => whnf)); repeat (first | (refine cndT rfl ?_; (try (conv => whnf))) | (refine cndF rfl ?_; (try (conv => whnf)))))
        exact ⟨sx, _, _, rfl, .inr ⟨u, T, au, fs, rfl, hT⟩⟩
    · rintro σ H4 ⟨sx, due, v6, rfl, hd⟩
      rw [List.take_of_length_le (Nat.le_refl _), hx] at hd
      have sH := s13.trans sx
      ((try (conv => whnf)); repeat (first | (refine cndT rfl ?_; (try (conv => whnf))) | (refine cndF rfl ?_; (try (conv => whnf)))))
      unfold P_l_asked
      refine ⟨x, p, q, W, 0 + (i : Int), rfl, ek, hw.same sH, rfl, by omega, ac.mono sH, ad.mono sH, nd, hl, ⟨fun r tv T2 H5 hr w s5 eT => ?_, fun H5 hn s5 => ?_⟩⟩
      · rcases hd with ⟨h0, rfl⟩ | ⟨u, T, au, h0, rfl, hT⟩
        · rw [h0] at hr
          cases hr
        · have er := Option.some.inj (hr.symm.trans h0)
          have et := refW_place w er
          subst et
          obtain ⟨⟨t, ht⟩, _⟩ := (au.mono (sH.trans s5))
          ((try (conv => whnf)); repeat (first | (refine cndT rfl ?_; (try (conv => whnf))) | (refine cndF rfl ?_; (try (conv => whnf)))))
          refine .inr ⟨T2, T, [.str "place"], u, t, rfl, rfl, eT, s5 _ _ hT, ?_, ht, fun H6 s6 => ?_⟩
          · show (true && (okI u && true)) = true
            rw [au.okI]
            try rfl
          ((try (conv => whnf)); repeat (first | (refine cndT rfl ?_; (try (conv => whnf))) | (refine cndF rfl ?_; (try (conv => whnf)))))
          exact ⟨(sH.trans s5).trans s6, _, _, _, rfl⟩
      · rcases hd with ⟨h0, rfl⟩ | ⟨u, T, au, h0, rfl, hT⟩
        · ((try (conv => whnf)); repeat (first | (refine cndT rfl ?_; (try (conv => whnf))) | (refine cndF rfl ?_; (try (conv => whnf)))))
          refine .inl ⟨rfl, rfl, fun H6 s6 => ?_⟩
          ((try (conv => whnf)); repeat (first | (refine cndT rfl ?_; (try (conv => whnf))) | (refine cndF rfl ?_; (try (conv => whnf)))))
          exact ⟨(sH.trans s5).trans s6, _, _, _, rfl⟩
        · rw [h0] at hn
          cases hn
  · rintro σ H1 ⟨s1, v4, v5, v6, rfl⟩
    exact k H1 s1

end Wk12
namespace Wk12
open PySem L2 PySem.Spec PyProof.Rows Rf
/-! ### what the deeds leave -/
section
variable {α : Type} [DecidableEq α]
theorem getA_in {l : List (α × Int)} {k : α} {v : Int} (h : getA l k = some v) : (k, v) ∈ l := by
  unfold getA at h
  cases hf : List.find? (fun p => decide (p.1 = k)) l with
  | none => rw [hf] at h; cases h
  | some z =>
    rw [hf] at h
    have hz0 := List.find?_some hf
    have hz := of_decide_eq_true hz0
    cases h
    rw [← hz]
    exact List.mem_of_find?_eq_some hf
theorem getA_isSome {l : List (α × Int)} {k : α} : (getA l k).isSome = true ↔ k ∈ l.map Prod.fst := by
  constructor
  · intro h
    obtain ⟨i, e, he, ee⟩ := getA_ex h
    exact List.mem_map.mpr ⟨e, List.mem_of_getElem? he, ee⟩
  · intro h
    obtain ⟨e, he, ee⟩ := List.mem_map.mp h
    obtain ⟨i, hi, ei⟩ := List.getElem_of_mem he
    have := getA_mem (l := l) (i := i) (e := e) (by rw [List.getElem?_eq_getElem hi, ei])
    rw [← ee]; exact this
theorem putA_keys {l : List (α × Int)} {k : α} {v : Int} (h : (getA l k).isSome = true) : (putA l k v).map Prod.fst = l.map Prod.fst := by
  unfold putA
  have : (l.any fun p => decide (p.1 = k)) = true := by
    obtain ⟨e, he, ee⟩ := List.mem_map.mp (getA_isSome.mp h)
    exact List.any_eq_true.mpr ⟨e, he, decide_eq_true ee⟩
  rw [if_pos this, List.map_map]
  refine List.map_congr_left fun p _ => ?_
  show (if p.1 = k then (p.1, v) else p).1 = p.1
  split <;> rfl
theorem putA_mem {l : List (α × Int)} {k : α} {v : Int} {e : α × Int} (h : (getA l k).isSome = true) (he : e ∈ putA l k v) : e ∈ l ∨ e = (k, v) := by
  unfold putA at he
  have : (l.any fun p => decide (p.1 = k)) = true := by
    obtain ⟨e, he, ee⟩ := List.mem_map.mp (getA_isSome.mp h)
    exact List.any_eq_true.mpr ⟨e, he, decide_eq_true ee⟩
  rw [if_pos this] at he
  obtain ⟨p, hp, hpe⟩ := List.mem_map.mp he
  by_cases c : p.1 = k
  · rw [if_pos c] at hpe
    exact .inr (by rw [← hpe, c])
  · rw [if_neg c] at hpe
    exact .inl (hpe ▸ hp)
theorem dropA_keys {l : List (α × Int)} {k : α} : ((dropA l k).map Prod.fst).Sublist (l.map Prod.fst) := (List.filter_sublist ..).map _
theorem getA_filter {l : List (α × Int)} {f : α × Int → Bool} {k : α} (h : (getA (l.filter f) k).isSome = true) : (getA l k).isSome = true := by
  rw [getA_isSome] at h ⊢
  exact ((List.filter_sublist ..).map _).subset h
theorem getA_drop {l : List (α × Int)} {k j : α} (n : j ≠ k) (h : (getA l j).isSome = true) : (getA (dropA l k) j).isSome = true := by
  rw [getA_isSome] at h ⊢
  obtain ⟨e, he, ee⟩ := List.mem_map.mp h
  exact List.mem_map.mpr ⟨e, List.mem_filter.mpr ⟨he, decide_eq_true (by rw [ee]; exact n)⟩, ee⟩
end
theorem isPl_iff {W : WebS} {n : Str} : isPl W n ↔ n ∈ W.hv.map Prod.fst := getA_isSome
theorem WOk.hv {W : WebS} (h : WOk W) {l : List (Str × Int)} (nd : (l.map Prod.fst).Nodup) (ll : l.length ≤ 60) (sub : ∀ n, n ∈ W.hv.map Prod.fst → n ∈ l.map Prod.fst) (ok : ∀ e ∈ l, PyData.strOk e.1 = true) : WOk ⟨l, W.kn⟩ where
  nh := nd
  nk := h.nk
  lh := ll
  lk := h.lk
  ends := fun e he => ⟨isPl_iff.mpr (sub _ (isPl_iff.mp (h.ends e he).1)), isPl_iff.mpr (sub _ (isPl_iff.mp (h.ends e he).2))⟩
  ow := h.ow
  ok := ⟨ok, h.ok.2⟩
  pos := h.pos
  ne := h.ne
theorem knot_none {W : WebS} {n m : Str} (h : knotW W n m = none) : getA W.kn (n, m) = none ∧ getA W.kn (m, n) = none := by
  unfold knotW at h
  by_cases c : (getA W.kn (n, m)).isSome = true
  · rw [if_pos c] at h; cases h
  · rw [if_neg c] at h
    by_cases c2 : (getA W.kn (m, n)).isSome = true
    · rw [if_pos c2] at h; cases h
    · constructor
      · cases e : getA W.kn (n, m) with
        | none => rfl
        | some z => rw [e] at c; exact absurd rfl c
      · cases e : getA W.kn (m, n) with
        | none => rfl
        | some z => rw [e] at c2; exact absurd rfl c2
theorem WebO.keep {K H H' x p q W} {S : List Addr} (h : WebO K H x p q W) (k : Kx S H H') (h1 : x ∉ S) (h2 : p ∉ S) (h3 : q ∉ S) : WebO K H' x p q W := ⟨h.k, (let ⟨dx, e⟩ := h.o; ⟨dx, k _ _ h1 e⟩), k _ _ h2 h.hv, k _ _ h3 h.kn⟩
theorem StO.keep {H H' s d0 d1 W} {S : List Addr} (h : StO H s d0 d1 W) (k : Kx S H H') (h1 : s ∉ S) (h2 : d0 ∉ S) (h3 : d1 ∉ S) : StO H' s d0 d1 W := ⟨k _ _ h1 h.s, k _ _ h2 h.hv, k _ _ h3 h.kn⟩
theorem nek {H : Hp} {a b : Addr} {o u : HO} (h1 : H a = some o) (h2 : H b = some u) (n : o ≠ u) : a ≠ b := fun e => n (Option.some.inj (h1.symm.trans (e ▸ h2)))
theorem ni2 {a b c : Addr} (h1 : a ≠ b) (h2 : a ≠ c) : a ∉ [b, c] := fun h => by
  simp only [List.mem_cons, List.not_mem_nil, or_false] at h
  rcases h with h | h
  · exact h1 h
  · exact h2 h
structure WG (W : WebS) : Prop where
  ok : WOk W
  nm : ∀ e ∈ W.hv, nameS e.1 = true
theorem nameS_strOk {z : Str} (h : nameS z = true) : PyData.strOk z = true := by
  unfold nameS at h
  obtain ⟨_, h2⟩ := Bool.and_eq_true_iff.mp h
  rw [List.all_eq_true] at h2
  unfold PyData.strOk
  rw [← Array.all_toList, List.all_eq_true]
  intro c hc
  have := h2 c hc
  simp only [Bool.and_eq_true, decide_eq_true_eq] at this
  exact decide_eq_true (by omega)
theorem wg_nil : WG ⟨[], []⟩ := ⟨⟨.nil, .nil, by decide, by decide, (fun e h => by cases h), (fun u v h => by cases h), ⟨(fun e h => by cases h), (fun e h => by cases h)⟩, (fun e h => by cases h), (fun e h => by cases h)⟩, fun e h => by cases h⟩
theorem wg_put {W : WebS} (h : WG W) {n : Str} {w : Int} (hn : nameS n = true) (hg : getA W.hv n = none) (hl : W.hv.length < 60) : WG ⟨putA W.hv n w, W.kn⟩ := by
  rw [getA_app hg]
  have hnot : n ∉ W.hv.map Prod.fst := fun hm => by rw [← getA_isSome, hg] at hm; cases hm
  have hmem : ∀ e ∈ W.hv ++ [(n, w)], nameS e.1 = true := fun e he => by
    rcases List.mem_append.mp he with he | he
    · exact h.nm e he
    · have : e = (n, w) := by simpa using he
      rw [this]; exact hn
  have hnd : ((W.hv ++ [(n, w)]).map Prod.fst).Nodup := by
    rw [List.map_append, List.nodup_append]
    refine ⟨h.ok.nh, by simp, fun a ha b hb e => ?_⟩
    have : b = n := by simpa using hb
    exact hnot (by rw [← this, ← e]; exact ha)
  refine ⟨h.ok.hv hnd ?_ (fun m hm => ?_) (fun e he => nameS_strOk (hmem e he)), hmem⟩
  · rw [List.length_append]; simp; omega
  · rw [List.map_append]; exact List.mem_append_left _ hm
theorem wg_weigh {W : WebS} (h : WG W) {n : Str} {w : Int} (hg : (getA W.hv n).isSome = true) : WG ⟨putA W.hv n w, W.kn⟩ := by
  have hk := putA_keys (v := w) hg
  have hmem : ∀ e ∈ putA W.hv n w, nameS e.1 = true := fun e he => by
    rcases putA_mem hg he with he | he
    · exact h.nm e he
    · rw [he]
      obtain ⟨e2, he2, ee⟩ := List.mem_map.mp (getA_isSome.mp hg)
      have := h.nm e2 he2
      rw [ee] at this; exact this
  have hlen : (putA W.hv n w).length = W.hv.length := by
    have := congrArg List.length hk
    simpa using this
  exact ⟨h.ok.hv (by rw [hk]; exact h.ok.nh) (by rw [hlen]; exact h.ok.lh) (fun m hm => by rw [hk]; exact hm) (fun e he => nameS_strOk (hmem e he)), hmem⟩
theorem wg_drop {W : WebS} (h : WG W) {n : Str} : WG ⟨dropA W.hv n, W.kn.filter fun e => !touch n e⟩ where
  ok := {
    nh := h.ok.nh.sublist dropA_keys
    nk := h.ok.nk.sublist ((List.filter_sublist ..).map _)
    lh := Nat.le_trans (List.length_filter_le _ _) h.ok.lh
    lk := Nat.le_trans (List.length_filter_le _ _) h.ok.lk
    ends := fun e he => by
      obtain ⟨h1, h2⟩ := List.mem_filter.mp he
      obtain ⟨e1, e2⟩ := h.ok.ends e h1
      have ht : touch n e = false := by simpa using h2
      unfold touch at ht
      have t1 : ¬ n = e.1.1 := by
        intro z; rw [decide_eq_true z] at ht; cases ht
      have t2 : ¬ n = e.1.2 := by
        intro z; rw [decide_eq_true z, Bool.or_true] at ht; cases ht
      exact ⟨getA_drop (Ne.symm t1) e1, getA_drop (Ne.symm t2) e2⟩
    ow := fun u v h1 h2 => h.ok.ow u v (getA_filter h1) (getA_filter h2)
    ok := ⟨fun e he => h.ok.ok.1 e (List.mem_filter.mp he).1, fun e he => h.ok.ok.2 e (List.mem_filter.mp he).1⟩
    pos := fun e he => h.ok.pos e (List.mem_filter.mp he).1
    ne := fun e he => h.ok.ne e (List.mem_filter.mp he).1 }
  nm := fun e he => h.nm e (List.mem_filter.mp he).1
theorem wg_tie {W : WebS} (hl : W.kn.length < 200) (h : WG W) {n m : Str} {w : Int} (hn : isPl W n) (hm : isPl W m) (ne : n ≠ m) (hk : knotW W n m = none) (w1 : 1 ≤ w) : WG ⟨W.hv, putA W.kn (n, m) w⟩ := by
  obtain ⟨g1, g2⟩ := knot_none hk
  rw [getA_app g1]
  have hnot : (n, m) ∉ W.kn.map Prod.fst := fun hm => by rw [← getA_isSome, g1] at hm; cases hm
  have hnot2 : (m, n) ∉ W.kn.map Prod.fst := fun hm => by rw [← getA_isSome, g2] at hm; cases hm
  have hin : ∀ e ∈ W.kn ++ [((n, m), w)], e ∈ W.kn ∨ e = ((n, m), w) := fun e he => by
    rcases List.mem_append.mp he with he | he
    · exact .inl he
    · exact .inr (by simpa using he)
  have hkey : ∀ k, (getA (W.kn ++ [((n, m), w)]) k).isSome = true → k ∈ W.kn.map Prod.fst ∨ k = (n, m) := fun k hk => by
    rw [getA_isSome, List.map_append] at hk
    rcases List.mem_append.mp hk with h | h
    · exact .inl h
    · exact .inr (by simpa using h)
  refine ⟨{
    nh := h.ok.nh
    nk := ?_
    lh := h.ok.lh
    lk := ?_
    ends := fun e he => ?_
    ow := fun u v h1 h2 => ?_
    ok := ⟨h.ok.ok.1, fun e he => ?_⟩
    pos := fun e he => ?_
    ne := fun e he => ?_ }, h.nm⟩
  · show ((W.kn ++ [((n, m), w)]).map Prod.fst).Nodup
    rw [List.map_append, List.nodup_append]
    refine ⟨h.ok.nk, by simp, fun a ha b hb e => ?_⟩
    have : b = (n, m) := by simpa using hb
    exact hnot (by rw [← this, ← e]; exact ha)
  · show (W.kn ++ [((n, m), w)]).length ≤ 200
    rw [List.length_append]; simp; omega
  · rcases hin e he with h1 | h1
    · exact h.ok.ends e h1
    · rw [h1]; exact ⟨hn, hm⟩
  · rcases hkey _ h1 with k1 | k1 <;> rcases hkey _ h2 with k2 | k2
    · exact h.ok.ow u v (getA_isSome.mpr k1) (getA_isSome.mpr k2)
    · have e1 := congrArg Prod.fst k2
      have e2 := congrArg Prod.snd k2
      rw [show (u, v) = (m, n) from Prod.ext e2 e1] at k1
      exact absurd k1 hnot2
    · have e1 := congrArg Prod.fst k1
      have e2 := congrArg Prod.snd k1
      rw [show (v, u) = (m, n) from Prod.ext e2 e1] at k2
      exact absurd k2 hnot2
    · exact absurd ((congrArg Prod.fst k1).symm.trans ((congrArg Prod.snd k2))) (by
        intro z
        exact ne ((congrArg Prod.fst k1).symm.trans (congrArg Prod.snd k2)))
  · rcases hin e he with h1 | h1
    · exact h.ok.ok.2 e h1
    · rw [h1]; exact ⟨pl_ok h.ok.ok hn, pl_ok h.ok.ok hm⟩
  · rcases hin e he with h1 | h1
    · exact h.ok.pos e h1
    · rw [h1]; exact w1
  · rcases hin e he with h1 | h1
    · exact h.ok.ne e h1
    · rw [h1]; exact ne
theorem wg_more {W : WebS} (h : WG W) {k : Str × Str} {w w0 : Int} (hg : getA W.kn k = some w0) (w1 : 1 ≤ w0 + w) : WG ⟨W.hv, putA W.kn k (w0 + w)⟩ := by
  have hs : (getA W.kn k).isSome = true := by rw [hg]; rfl
  have hk := putA_keys (v := w0 + w) hs
  have hlen : (putA W.kn k (w0 + w)).length = W.kn.length := by
    have := congrArg List.length hk
    simpa using this
  have hin : ∀ e ∈ putA W.kn k (w0 + w), ∃ e2 ∈ W.kn, e2.1 = e.1 := fun e he => by
    rcases putA_mem hs he with h1 | h1
    · exact ⟨e, h1, rfl⟩
    · obtain ⟨e2, he2, ee⟩ := List.mem_map.mp (getA_isSome.mp hs)
      exact ⟨e2, he2, by rw [ee, h1]⟩
  have hkey : ∀ j, (getA (putA W.kn k (w0 + w)) j).isSome = true → (getA W.kn j).isSome = true := fun j hj => by
    rw [getA_isSome] at hj ⊢
    rw [← hk]; exact hj
  refine ⟨{
    nh := h.ok.nh
    nk := by show ((putA W.kn k (w0 + w)).map Prod.fst).Nodup; rw [hk]; exact h.ok.nk
    lh := h.ok.lh
    lk := by show (putA W.kn k (w0 + w)).length ≤ 200; rw [hlen]; exact h.ok.lk
    ends := fun e he => by
      obtain ⟨e2, he2, ee⟩ := hin e he
      have := h.ok.ends e2 he2
      rw [ee] at this; exact this
    ow := fun u v h1 h2 => h.ok.ow u v (hkey _ h1) (hkey _ h2)
    ok := ⟨h.ok.ok.1, fun e he => by
      obtain ⟨e2, he2, ee⟩ := hin e he
      have := h.ok.ok.2 e2 he2
      rw [ee] at this; exact this⟩
    pos := fun e he => by
      rcases putA_mem hs he with h1 | h1
      · exact h.ok.pos e h1
      · rw [h1]; exact w1
    ne := fun e he => by
      obtain ⟨e2, he2, ee⟩ := hin e he
      have := h.ok.ne e2 he2
      rw [ee] at this; exact this }, h.nm⟩
theorem wg_untie {W : WebS} (h : WG W) {k : Str × Str} : WG ⟨W.hv, dropA W.kn k⟩ where
  ok := {
    nh := h.ok.nh
    nk := h.ok.nk.sublist dropA_keys
    lh := h.ok.lh
    lk := Nat.le_trans (List.length_filter_le _ _) h.ok.lk
    ends := fun e he => h.ok.ends e (List.mem_filter.mp he).1
    ow := fun u v h1 h2 => h.ok.ow u v (getA_filter h1) (getA_filter h2)
    ok := ⟨h.ok.ok.1, fun e he => h.ok.ok.2 e (List.mem_filter.mp he).1⟩
    pos := fun e he => h.ok.pos e (List.mem_filter.mp he).1
    ne := fun e he => h.ok.ne e (List.mem_filter.mp he).1 }
  nm := h.nm
theorem putO_none {W : WebS} {b c : V} (h : putO W b c = none) : ∃ n w, b = .str n ∧ c = .int w ∧ nameS n = true ∧ getA W.hv n = none ∧ W.hv.length < 60 := by
  cases c0 : nameV b with
  | false =>
    unfold putO at h
    rw [c0] at h
    cases h
  | true =>
  obtain ⟨n, rfl, hn⟩ := nameV_str c0
  cases hw : weightO c with
  | some r => rw [putO_w c0 hw] at h; cases h
  | none =>
  obtain ⟨w, rfl, w1, w2⟩ := weightO_ok hw
  rw [putO_at hn hw] at h
  split at h
  · cases h
  · rename_i h1
    split at h
    · cases h
    · refine ⟨n, w, rfl, rfl, hn, ?_, by omega⟩
      cases hg : getA W.hv n with
      | none => rfl
      | some z => rw [hg] at h1; exact absurd rfl h1
theorem weighO_none {W : WebS} {b c : V} (h : weighO W b c = none) : ∃ n w, b = .str n ∧ c = .int w ∧ isPl W n := by
  cases hp : placeO W b with
  | some r => rw [weighO_p hp] at h; cases h
  | none =>
  obtain ⟨n, rfl, hn⟩ := placeO_ok hp
  cases hw : weightO c with
  | some r => rw [weighO_w hp hw] at h; cases h
  | none =>
  obtain ⟨w, rfl, w1, w2⟩ := weightO_ok hw
  exact ⟨n, w, rfl, rfl, hn⟩
theorem tieO_none {W : WebS} {b c d : V} (h : tieO W b c d = none) : ∃ n m w, b = .str n ∧ c = .str m ∧ d = .int w ∧ isPl W n ∧ isPl W m ∧ n ≠ m ∧ 1 ≤ w ∧ knotW W n m = none ∧ W.kn.length < 200 := by
  cases hp : twoO W b c with
  | some r => rw [tieO_2 hp] at h; cases h
  | none =>
  obtain ⟨n, m, rfl, rfl, hn, hm, ne⟩ := twoO_ok hp
  cases hw : strO d with
  | some r => rw [tieO_s hp hw] at h; cases h
  | none =>
  obtain ⟨w, rfl, w1, w2⟩ := strO_ok hw
  rw [tieO_k hp hw] at h
  split at h
  · cases h
  · rename_i h1
    split at h
    · cases h
    · refine ⟨n, m, w, rfl, rfl, rfl, hn, hm, ne, w1, ?_, by omega⟩
      cases hg : knotW W n m with
      | none => rfl
      | some z => rw [hg] at h1; exact absurd rfl h1
theorem needTieO_none {W : WebS} {b c : V} (h : needTieO W b c = none) : ∃ n m k, b = .str n ∧ c = .str m ∧ isPl W n ∧ isPl W m ∧ knotW W n m = some k := by
  cases hp : twoO W b c with
  | some r => rw [needTieO_two hp] at h; cases h
  | none =>
  obtain ⟨n, m, rfl, rfl, hn, hm, ne⟩ := twoO_ok hp
  cases hk : knotW W n m with
  | none => rw [needTieO_no hp hk] at h; cases h
  | some k => exact ⟨n, m, k, rfl, rfl, hn, hm, hk⟩
theorem moreO_none {W : WebS} {b c d : V} (h : moreO W b c d = none) : ∃ n m w k, b = .str n ∧ c = .str m ∧ d = .int w ∧ isPl W n ∧ isPl W m ∧ knotW W n m = some k ∧ 1 ≤ tieW W n m + w := by
  cases hp : needTieO W b c with
  | some r => rw [moreO_2 hp] at h; cases h
  | none =>
  obtain ⟨n, m, k, rfl, rfl, hn, hm, hk⟩ := needTieO_none hp
  cases hw : wholeV d (-1000000000) 1000000000 with
  | false => rw [moreO_f hp hw] at h; cases h
  | true =>
  obtain ⟨w, rfl, w1, w2⟩ := wholeV_int hw
  rw [moreO_k hp] at h
  split at h
  · cases h
  · rename_i h1
    exact ⟨n, m, w, k, rfl, rfl, rfl, hn, hm, hk, by have : ¬ tieW W n m + w < 1 := fun z => h1 (.inr z); omega⟩
/-- a deed that is done -/
theorem step_of {W : WebS} {dv : DeedV} (h : WG W) (hd : doneO W dv = none) : WG (newW W dv) ∧ ∃ d : Deed, deedT dv = dV d ∧ newW W dv = doneW W d ∧ fitsD W d ∧ okD d := by
  cases dv with
  | put b c =>
    obtain ⟨n, w, rfl, rfl, hn, hg, hl⟩ := putO_none hd
    exact ⟨wg_put h hn hg hl, .put n w, rfl, rfl, trivial, trivial⟩
  | weigh b c =>
    obtain ⟨n, w, rfl, rfl, hn⟩ := weighO_none hd
    exact ⟨wg_weigh h hn, .weigh n w, rfl, rfl, trivial, trivial⟩
  | drop b =>
    obtain ⟨n, rfl, hn⟩ := placeO_ok (show placeO W b = none from hd)
    exact ⟨wg_drop h, .drop n, rfl, rfl, hn, trivial⟩
  | tie b c d =>
    obtain ⟨n, m, w, rfl, rfl, rfl, hn, hm, ne, w1, hk, hl⟩ := tieO_none hd
    exact ⟨wg_tie hl h hn hm ne hk w1, .tie n m w, rfl, rfl, trivial, trivial⟩
  | more b c d =>
    obtain ⟨n, m, w, k, rfl, rfl, rfl, hn, hm, hk, h1⟩ := moreO_none hd
    obtain ⟨w0, hg⟩ := knotW_some (u := k.1) (v := k.2) hk
    replace hg : getA W.kn k = some w0 := hg
    have tw : tieW W n m = w0 := by
      unfold tieW
      rw [hk]
      show (getA W.kn k).getD 0 = _
      rw [hg]
      try rfl
    have e1 : newW W (.more (.str n) (.str m) (.int w)) = ⟨W.hv, putA W.kn k (w0 + w)⟩ := by
      show (match knotW W n m with | some k => _ | none => _) = _
      rw [hk]
      show WebS.mk _ _ = _
      rw [tw]
    have e2 : doneW W (.more n m w) = ⟨W.hv, putA W.kn k (w0 + w)⟩ := by
      show (match knotW W n m with | some k => _ | none => _) = _
      rw [hk]
      show WebS.mk _ _ = _
      rw [hg]
      try rfl
    refine ⟨?_, .more n m w, rfl, e1.trans e2.symm, by show (knotW W n m).isSome = true; rw [hk]; rfl, pl_ok h.ok.ok hn, pl_ok h.ok.ok hm⟩
    rw [e1]
    exact wg_more h hg (by rw [← tw]; exact h1)
  | untie b c =>
    obtain ⟨n, m, k, rfl, rfl, hn, hm, hk⟩ := needTieO_none (show needTieO W b c = none from hd)
    have e1 : newW W (.untie (.str n) (.str m)) = ⟨W.hv, dropA W.kn k⟩ := by
      show (match knotW W n m with | some k => _ | none => _) = _
      rw [hk]
    have e2 : doneW W (.untie n m) = ⟨W.hv, dropA W.kn k⟩ := by
      show (match knotW W n m with | some k => _ | none => _) = _
      rw [hk]
    refine ⟨?_, .untie n m, rfl, e1.trans e2.symm, by show (knotW W n m).isSome = true; rw [hk]; rfl, pl_ok h.ok.ok hn, pl_ok h.ok.ok hm⟩
    rw [e1]
    exact wg_untie h

end Wk12
namespace Wk12
open PySem L2 PySem.Spec PyProof.Rows Rf
structure LI (K : PySem.W.Frag) (H : Hp) (x p q s d0 d1 : Addr) (W : WebS) : Prop where
  w : WebO K H x p q W
  o : StO H s d0 d1 W
  g : WG W
  n0 : p ≠ d0
  n1 : q ≠ d1
theorem LI.same {K H H' x p q s d0 d1 W} (h : LI K H x p q s d0 d1 W) (k : Same H H') : LI K H' x p q s d0 d1 W := ⟨h.w.same k, h.o.same k, h.g, h.n0, h.n1⟩
theorem LI.st {K H H' x p q s d0 d1 W} (h : LI K H x p q s d0 d1 W) (k4 : Kx [p, q] H H') : StO H' s d0 d1 W := h.o.keep k4
      (ni2 (nek h.o.s h.w.hv (fun z => by cases z)) (nek h.o.s h.w.kn (fun z => by cases z)))
      (ni2 h.n0.symm (nek h.o.hv h.w.kn (fun z => by cases z)))
      (ni2 (nek h.o.kn h.w.hv (fun z => by cases z)) h.n1.symm)
theorem LI.kp {K H H' x p q s d0 d1 W} (h : LI K H x p q s d0 d1 W) (k4 : Kx [p, q] H H') {a : Addr} {o : HO} (e : H a = some o) (h1 : ∀ l, o ≠ .dK l) (h2 : ∀ l, o ≠ .dT l) : H' a = some o := k4 _ _ (ni2 (nek e h.w.hv (h1 _)) (nek e h.w.kn (h2 _))) e
theorem StO.kp {H H' s d0 d1 W} (h : StO H s d0 d1 W) (k4 : Kx [d0, d1] H H') {a : Addr} {o : HO} (e : H a = some o) (h1 : ∀ l, o ≠ .dK l) (h2 : ∀ l, o ≠ .dT l) : H' a = some o := k4 _ _ (ni2 (nek e h.hv (h1 _)) (nek e h.kn (h2 _))) e
theorem LI.sq {K H H' x p q s d0 d1 W} (h : LI K H x p q s d0 d1 W) (k4 : Kx [p, q] H H') {a : Addr} {xs : List V} (e : SqL K H a xs) : SqL K H' a xs := by
  rcases e with (e | ⟨o, e⟩) | e
  · exact .inl (.inl (h.kp k4 e (fun _ z => by cases z) (fun _ z => by cases z)))
  · exact .inl (.inr ⟨o, h.kp k4 e (fun _ z => by cases z) (fun _ z => by cases z)⟩)
  · exact .inr e
theorem StO.sq {K H H' s d0 d1 W} (h : StO H s d0 d1 W) (k4 : Kx [d0, d1] H H') {a : Addr} {xs : List V} (e : SqL K H a xs) : SqL K H' a xs := by
  rcases e with (e | ⟨o, e⟩) | e
  · exact .inl (.inl (h.kp k4 e (fun _ z => by cases z) (fun _ z => by cases z)))
  · exact .inl (.inr ⟨o, h.kp k4 e (fun _ z => by cases z) (fun _ z => by cases z)⟩)
  · exact .inr e
theorem LI.next {K H H' x p q s d0 d1 W W'} (w4 : WebO K H x p q W') (o4 : StO H s d0 d1 W) (g : WG W') (n0 : p ≠ d0) (n1 : q ≠ d1) (k5 : Kx [d0, d1] H H') (e0 : H' d0 = some (.dK (emb kS W'.hv))) (e1 : H' d1 = some (.dT (emb kP W'.kn))) : LI K H' x p q s d0 d1 W' where
  w := w4.keep k5
      (ni2 (nek w4.o.choose_spec o4.hv (fun z => by cases z)) (nek w4.o.choose_spec o4.kn (fun z => by cases z)))
      (ni2 n0 (nek w4.hv o4.kn (fun z => by cases z)))
      (ni2 (nek w4.kn o4.hv (fun z => by cases z)) n1)
  o := ⟨o4.kp k5 o4.s (fun _ z => by cases z) (fun _ z => by cases z), e0, e1⟩
  g := g
  n0 := n0
  n1 := n1
theorem TyX.keep {K : PySem.W.Frag} {H H' : Hp} {v : V} {t : Value} (s : ∀ a, v = .ref a → ∀ o, H a = some o → H' a = some o) (h : TyX K H v t) : TyX K H' v t := by
  cases h with
  | base b =>
    refine .base ?_
    cases b with
    | non => exact .non
    | bl x => exact .bl x
    | int i => exact .int i
    | str x => exact .str x
    | flt x => exact .flt x
    | lst e => exact .lst (s _ rfl _ e)
    | frz e => exact .frz (s _ rfl _ e)
    | tup e => exact .tup (s _ rfl _ e)
    | dK e => exact .dK (s _ rfl _ e)
    | dT e => exact .dT (s _ rfl _ e)
    | ins e a b c d f => exact .ins (s _ rfl _ e) a b c d f
  | byt b => exact .byt b
  | set e => exact .set (s _ rfl _ e)
  | kList e c => exact .kList e c
  | kTuple e c => exact .kTuple e c
  | kDict e c => exact .kDict e c
  | fTuple e => exact .fTuple (s _ rfl _ e)
  | fDict e => exact .fDict (s _ rfl _ e)
theorem AnyV.kx {K H H' v a b kv kt} (h : AnyV K H v) (k : Kx [a, b] H H') (e1 : H' a = some (.dK kv)) (e2 : H' b = some (.dT kt)) : AnyV K H' v := by
  refine ⟨?_, h.2⟩
  obtain ⟨t, ht⟩ := h.1
  cases v with
  | ref c =>
    by_cases c1 : c = a
    · subst c1
      exact ⟨"dict", .inr (.inr rfl), .base (.dK e1)⟩
    · by_cases c2 : c = b
      · subst c2
        exact ⟨"dict", .inr (.inr rfl), .base (.dT e2)⟩
      · exact ⟨t, ht.1, TyX.keep (fun z ez o e => by cases ez; exact k _ _ (by simp [c1, c2]) e) ht.2⟩
  | _ => exact ⟨t, ht⟩
theorem toldF_fun {r : Str × List (Str × V)} {tv tv' : List V} (h : RefW r tv) (h' : RefW r tv') : tv = tv' := by
  cases h <;> cases h' <;> rfl
theorem refW_any {K H} {r : Str × List (Str × V)} {tv : List V} (w : RefW r tv) (h : ∀ p ∈ r.2, AnyV K H p.2) : ∃ (vs : List V) (v : V) (t : String), tv = vs ++ [v] ∧ (vs ++ [v]).all okI = true ∧ TyN K H v t := by
  have one : ∀ (z : Str) (v : V), AnyV K H v → ∃ (vs : List V) (v' : V) (t : String), [V.str z, v] = vs ++ [v'] ∧ (vs ++ [v']).all okI = true ∧ TyN K H v' t := fun z v hv => by
    obtain ⟨⟨t, ht⟩, _⟩ := id hv
    exact ⟨[.str z], v, t, rfl, (by show (true && (okI v && true)) = true; rw [hv.okI]; rfl), ht⟩
  have two : ∀ (z : Str) (u v : V), AnyV K H u → AnyV K H v → ∃ (vs : List V) (v' : V) (t : String), [V.str z, u, v] = vs ++ [v'] ∧ (vs ++ [v']).all okI = true ∧ TyN K H v' t := fun z u v hu hv => by
    obtain ⟨⟨t, ht⟩, _⟩ := id hv
    exact ⟨[.str z, u], v, t, rfl, (by show (true && (okI u && (okI v && true))) = true; rw [hu.okI, hv.okI]; rfl), ht⟩
  cases w with
  | notie v w => exact two _ _ _ (h ("one", v) (by simp)) (h ("other", w) (by simp))
  | tied v w => exact two _ _ _ (h ("one", v) (by simp)) (h ("other", w) (by simp))
  | name v => exact one _ _ (h ("found", v) (by simp))
  | weight v => exact one _ _ (h ("found", v) (by simp))
  | strength v => exact one _ _ (h ("found", v) (by simp))
  | place v => exact one _ _ (h ("found", v) (by simp))
  | same v => exact one _ _ (h ("found", v) (by simp))
  | taken v => exact one _ _ (h ("found", v) (by simp))
  | many v => exact one _ _ (h ("many", v) (by simp))
  | beyond v => exact one _ _ (h ("many", v) (by simp))
section
variable {P : V → Prop}
theorem placeO_all {W : WebS} {b : V} {r : Str × List (Str × V)} (hb : P b) (h : placeO W b = some r) : ∀ p ∈ r.2, P p.2 := by
  rw [placeO_eq h]
  intro p hp
  rw [List.mem_singleton.mp hp]
  exact hb
theorem twoO_all {W : WebS} {b c : V} {r : Str × List (Str × V)} (hb : P b) (hc : P c) (h : twoO W b c = some r) : ∀ p ∈ r.2, P p.2 := by
  unfold twoO at h
  split at h
  · rename_i h1
    cases h
    exact placeO_all hb h1
  · split at h
    · rename_i h1
      cases h
      exact placeO_all hc h1
    · split at h
      · cases h
        intro p hp
        simp only [List.mem_cons, List.not_mem_nil, or_false] at hp
        first
          | (rcases hp with rfl | rfl <;> assumption)
          | (subst hp; first | assumption | exact hi _)
      · cases h
theorem needTieO_all {W : WebS} {b c : V} {r : Str × List (Str × V)} (hb : P b) (hc : P c) (h : needTieO W b c = some r) : ∀ p ∈ r.2, P p.2 := by
  unfold needTieO at h
  split at h
  · rename_i h1
    cases h
    exact twoO_all hb hc h1
  · split at h
    · cases h
      intro p hp
      simp only [List.mem_cons, List.not_mem_nil, or_false] at hp
      first
        | (rcases hp with rfl | rfl <;> assumption)
        | (subst hp; first | assumption | exact hi _)
    · cases h
theorem weightO_all {c : V} {r : Str × List (Str × V)} (hc : P c) (h : weightO c = some r) : ∀ p ∈ r.2, P p.2 := by
  unfold weightO at h
  split at h
  · cases h
  · cases h
    intro p hp
    simp only [List.mem_cons, List.not_mem_nil, or_false] at hp
    first
      | (rcases hp with rfl | rfl <;> assumption)
      | (subst hp; first | assumption | exact hi _)
theorem strO_all {c : V} {r : Str × List (Str × V)} (hc : P c) (h : strO c = some r) : ∀ p ∈ r.2, P p.2 := by
  unfold strO at h
  split at h
  · cases h
  · cases h
    intro p hp
    simp only [List.mem_cons, List.not_mem_nil, or_false] at hp
    first
      | (rcases hp with rfl | rfl <;> assumption)
      | (subst hp; first | assumption | exact hi _)
theorem doneO_all (hi : ∀ i, P (.int i)) {W : WebS} {dv : DeedV} {r : Str × List (Str × V)} (hv : ∀ v ∈ deedT dv, P v) (h : doneO W dv = some r) : ∀ p ∈ r.2, P p.2 := by
  cases dv with
  | put b c =>
    have hb : P b := hv _ (by simp [deedT])
    have hc : P c := hv _ (by simp [deedT])
    replace h : putO W b c = some r := h
    unfold putO at h
    split at h
    · cases h
      intro p hp
      simp only [List.mem_cons, List.not_mem_nil, or_false] at hp
      first
        | (rcases hp with rfl | rfl <;> assumption)
        | (subst hp; first | assumption | exact hi _)
    · split at h
      · rename_i h1
        cases h
        exact weightO_all hc h1
      · split at h
        · split at h
          · cases h
            intro p hp
            simp only [List.mem_cons, List.not_mem_nil, or_false] at hp
            first
              | (rcases hp with rfl | rfl <;> assumption)
              | (subst hp; first | assumption | exact hi _)
          · split at h
            · cases h
              intro p hp
              simp only [List.mem_cons, List.not_mem_nil, or_false] at hp
              first
                | (rcases hp with rfl | rfl <;> assumption)
                | (subst hp; first | assumption | exact hi _)
            · split at h
              · cases h
                intro p hp
                simp only [List.mem_cons, List.not_mem_nil, or_false] at hp
                first
                  | (rcases hp with rfl | rfl <;> assumption)
                  | (subst hp; first | assumption | exact hi _)
              · cases h
        · cases h
  | weigh b c =>
    have hb : P b := hv _ (by simp [deedT])
    have hc : P c := hv _ (by simp [deedT])
    replace h : weighO W b c = some r := h
    unfold weighO at h
    split at h
    · rename_i h1
      cases h
      exact placeO_all hb h1
    · split at h
      · rename_i h1
        cases h
        exact weightO_all hc h1
      · split at h
        · split at h
          · cases h
            intro p hp
            simp only [List.mem_cons, List.not_mem_nil, or_false] at hp
            first
              | (rcases hp with rfl | rfl <;> assumption)
              | (subst hp; first | assumption | exact hi _)
          · cases h
        · cases h
  | drop b =>
    have hb : P b := hv _ (by simp [deedT])
    exact placeO_all hb h
  | tie b c d =>
    have hb : P b := hv _ (by simp [deedT])
    have hc : P c := hv _ (by simp [deedT])
    have hd : P d := hv _ (by simp [deedT])
    replace h : tieO W b c d = some r := h
    unfold tieO at h
    split at h
    · rename_i h1
      cases h
      exact twoO_all hb hc h1
    · split at h
      · rename_i h1
        cases h
        exact strO_all hd h1
      · split at h
        · split at h
          · cases h
            intro p hp
            simp only [List.mem_cons, List.not_mem_nil, or_false] at hp
            first
              | (rcases hp with rfl | rfl <;> assumption)
              | (subst hp; first | assumption | exact hi _)
          · split at h
            · cases h
              intro p hp
              simp only [List.mem_cons, List.not_mem_nil, or_false] at hp
              first
                | (rcases hp with rfl | rfl <;> assumption)
                | (subst hp; first | assumption | exact hi _)
            · split at h
              · cases h
                intro p hp
                simp only [List.mem_cons, List.not_mem_nil, or_false] at hp
                first
                  | (rcases hp with rfl | rfl <;> assumption)
                  | (subst hp; first | assumption | exact hi _)
              · cases h
        · cases h
  | more b c d =>
    have hb : P b := hv _ (by simp [deedT])
    have hc : P c := hv _ (by simp [deedT])
    have hd : P d := hv _ (by simp [deedT])
    replace h : moreO W b c d = some r := h
    unfold moreO at h
    split at h
    · rename_i h1
      cases h
      exact needTieO_all hb hc h1
    · split at h
      · split at h
        · cases h
          intro p hp
          simp only [List.mem_cons, List.not_mem_nil, or_false] at hp
          first
            | (rcases hp with rfl | rfl <;> assumption)
            | (subst hp; first | assumption | exact hi _)
        · split at h
          · cases h
            intro p hp
            simp only [List.mem_cons, List.not_mem_nil, or_false] at hp
            first
              | (rcases hp with rfl | rfl <;> assumption)
              | (subst hp; first | assumption | exact hi _)
          · cases h
      · cases h
        intro p hp
        simp only [List.mem_cons, List.not_mem_nil, or_false] at hp
        first
          | (rcases hp with rfl | rfl <;> assumption)
          | (subst hp; first | assumption | exact hi _)
  | untie b c =>
    have hb : P b := hv _ (by simp [deedT])
    have hc : P c := hv _ (by simp [deedT])
    exact needTieO_all hb hc h
end
theorem deed_at (dv : DeedV) : ∃ u1 u2, atI (deedT dv) 1 = some u1 ∧ atI (deedT dv) (-1) = some u2 ∧ u1 ∈ deedT dv ∧ u2 ∈ deedT dv := by
  cases dv <;> exact ⟨_, _, rfl, rfl, by simp [deedT], by simp [deedT]⟩

end Wk12
namespace Wk12
open PySem L2 PySem.Spec PyProof.Rows Rf
def ds0 : List DeedV := [.put (.str "b") (.int 3), .put (.str "abc") (.int 2), .put (.str "zz") (.int 9), .tie (.str "zz") (.str "b") (.int 4), .put (.str "a") (.int 1)]
def w0 (i : Nat) : WebS := (ds0.take i).foldl newW ⟨[], []⟩
theorem ds0_ok : ∀ (i : Nat) (dv : DeedV), ds0[i]? = some dv → doneO (w0 i) dv = none ∧ w0 (i + 1) = newW (w0 i) dv := fun i dv h => by
  have e : w0 (i + 1) = newW (w0 i) dv := by
    unfold w0
    rw [List.take_add_one, h, List.foldl_append]
    try rfl
  refine ⟨?_, e⟩
  have key : ∀ (o : RefO), o.isNone = true → o = none := fun o h => Option.isNone_iff_eq_none.mp h
  apply key
  rcases i with _ | _ | _ | _ | _ | i
  · cases h; decide +kernel
  · cases h; decide +kernel
  · cases h; decide +kernel
  · cases h; decide +kernel
  · cases h; decide +kernel
  · cases h
theorem ds0_any {K H} : ∀ (i : Nat) (dv : DeedV), ds0[i]? = some dv → ∀ v ∈ deedT dv, AnyV K H v := fun i dv h => by
  have S : ∀ z : Str, z.length ≤ 8 → AnyV K H (.str z) := fun z hz => ⟨⟨"str", rfl⟩, fun _ e => by cases e; omega⟩
  have I : ∀ z : Int, AnyV K H (.int z) := fun z => ⟨⟨"int", rfl⟩, fun _ e => by cases e⟩
  intro v hv
  rcases i with _ | _ | _ | _ | _ | i <;> cases h <;> simp only [deedT, List.mem_cons, List.not_mem_nil, or_false] at hv
  · rcases hv with rfl | rfl | rfl
    · exact S _ (by decide +kernel)
    · exact S _ (by decide +kernel)
    · exact I _
  · rcases hv with rfl | rfl | rfl
    · exact S _ (by decide +kernel)
    · exact S _ (by decide +kernel)
    · exact I _
  · rcases hv with rfl | rfl | rfl
    · exact S _ (by decide +kernel)
    · exact S _ (by decide +kernel)
    · exact I _
  · rcases hv with rfl | rfl | rfl | rfl
    · exact S _ (by decide +kernel)
    · exact S _ (by decide +kernel)
    · exact S _ (by decide +kernel)
    · exact I _
  · rcases hv with rfl | rfl | rfl
    · exact S _ (by decide +kernel)
    · exact S _ (by decide +kernel)
    · exact I _
theorem pure_law {K a H Q E} (h : P_law K a H Q E) : t_law K E { nx := fun _ H' => Q .non H', rt := Q } [some a, none, none, none, none, none, none] H := by
  obtain ⟨ek, hk, sp, ns, rfl, hS, hl, k⟩ := h
  ((try (conv => whnf)); repeat (first | (refine cndT rfl ?_; (try (conv => whnf))) | (refine cndF rfl ?_; (try (conv => whnf)))))
  intro x dx nx ndx nxd
  generalize hG : L2.upd _ x _ = H1
  have e1 := atOf hG
  have s1 : Same H H1 := hG ▸ Same.upd (Same.new (Same.refl _) ndx) nx
  clear hG
  refine ⟨x, dx, rfl, hk, e1, fun p q H2 np nq hw2 k2 => ?_⟩
  have s2 : Same H H2 := fun b o e => k2 b o (by simp; exact ne_of_none e nx) (s1 b o e)
  refine ⟨rfl, ?_⟩
  ((try (conv => whnf)); repeat (first | (refine cndT rfl ?_; (try (conv => whnf))) | (refine cndF rfl ?_; (try (conv => whnf)))))
  left
  (intro d0 nd0; generalize hG : _root_.L2.upd _ d0 _ = H3; have s3 := sameOf nd0 hG; have e3 := atOf hG; clear hG; ((try (conv => whnf)); repeat (first | (refine cndT rfl ?_; (try (conv => whnf))) | (refine cndF rfl ?_; (try (conv => whnf))))))
  right
  (intro d1 nd1; generalize hG : _root_.L2.upd _ d1 _ = H4; have s4 := sameOf nd1 hG; have e4 := atOf hG; clear hG; ((try (conv => whnf)); repeat (first | (refine cndT rfl ?_; (try (conv => whnf))) | (refine cndF rfl ?_; (try (conv => whnf))))))
  refine ⟨by show 2 ≤ sizeLine; decide, ?_⟩
  (intro s ns4; generalize hG : _root_.L2.upd _ s _ = H5; have s5 := sameOf ns4 hG; have e5 := atOf hG; clear hG; ((try (conv => whnf)); repeat (first | (refine cndT rfl ?_; (try (conv => whnf))) | (refine cndF rfl ?_; (try (conv => whnf))))))
  have hw5 : WebO K H5 x p q ⟨[], []⟩ := hw2.same ((s3.trans s4).trans s5)
  have ho5 : StO H5 s d0 d1 ⟨[], []⟩ := ⟨e5, s5 _ _ (s4 _ _ e3), s5 _ _ e4⟩
  have s05 : Same H H5 := ((s2.trans s3).trans s4).trans s5
  have li0 : LI K H5 x p q s d0 d1 ⟨[], []⟩ := ⟨hw5, ho5, wg_nil, ne_of_none hw2.hv nd0, ne_of_none (s3 _ _ hw2.kn) nd1⟩
  refine ⟨by show 3 ≤ sizeLine; decide, ?_⟩
  (intro t1 nt1; generalize hG : _root_.L2.upd _ t1 _ = G1; have r1 := sameOf nt1 hG; have g1 := atOf hG; clear hG; ((try (conv => whnf)); repeat (first | (refine cndT rfl ?_; (try (conv => whnf))) | (refine cndF rfl ?_; (try (conv => whnf))))))
  refine ⟨by show 3 ≤ sizeLine; decide, ?_⟩
  (intro t2 nt2; generalize hG : _root_.L2.upd _ t2 _ = G2; have r2 := sameOf nt2 hG; have g2 := atOf hG; clear hG; ((try (conv => whnf)); repeat (first | (refine cndT rfl ?_; (try (conv => whnf))) | (refine cndF rfl ?_; (try (conv => whnf))))))
  refine ⟨by show 3 ≤ sizeLine; decide, ?_⟩
  (intro t3 nt3; generalize hG : _root_.L2.upd _ t3 _ = G3; have r3 := sameOf nt3 hG; have g3 := atOf hG; clear hG; ((try (conv => whnf)); repeat (first | (refine cndT rfl ?_; (try (conv => whnf))) | (refine cndF rfl ?_; (try (conv => whnf))))))
  refine ⟨by show 4 ≤ sizeLine; decide, ?_⟩
  (intro t4 nt4; generalize hG : _root_.L2.upd _ t4 _ = G4; have r4 := sameOf nt4 hG; have g4 := atOf hG; clear hG; ((try (conv => whnf)); repeat (first | (refine cndT rfl ?_; (try (conv => whnf))) | (refine cndF rfl ?_; (try (conv => whnf))))))
  refine ⟨by show 3 ≤ sizeLine; decide, ?_⟩
  (intro t5 nt5; generalize hG : _root_.L2.upd _ t5 _ = G5; have r5 := sameOf nt5 hG; have g5 := atOf hG; clear hG; ((try (conv => whnf)); repeat (first | (refine cndT rfl ?_; (try (conv => whnf))) | (refine cndF rfl ?_; (try (conv => whnf))))))
  refine ⟨by show 5 ≤ sizeLine; decide, ?_⟩
  (intro l nl; generalize hG : _root_.L2.upd _ l _ = G6; have r6 := sameOf nl hG; have g6 := atOf hG; clear hG; ((try (conv => whnf)); repeat (first | (refine cndT rfl ?_; (try (conv => whnf))) | (refine cndF rfl ?_; (try (conv => whnf))))))
  refine .inl ⟨_, SqL.of g6, ?_⟩
  have sG : Same H5 G6 := ((((r1.trans r2).trans r3).trans r4).trans r5).trans r6
  have tps0 : ∀ (j : Nat) (y : V), [V.ref t1, .ref t2, .ref t3, .ref t4, .ref t5][j]? = some y → ∃ T dv, y = .ref T ∧ ds0[j]? = some dv ∧ G6 T = some (.tup (deedT dv)) := by
    intro j y hy
    rcases j with _ | _ | _ | _ | _ | j
    · cases hy; exact ⟨t1, _, rfl, rfl, r6 _ _ (r5 _ _ (r4 _ _ (r3 _ _ (r2 _ _ g1))))⟩
    · cases hy; exact ⟨t2, _, rfl, rfl, r6 _ _ (r5 _ _ (r4 _ _ (r3 _ _ g2)))⟩
    · cases hy; exact ⟨t3, _, rfl, rfl, r6 _ _ (r5 _ _ (r4 _ _ g3))⟩
    · cases hy; exact ⟨t4, _, rfl, rfl, r6 _ _ (r5 _ _ g4)⟩
    · cases hy; exact ⟨t5, _, rfl, rfl, r6 _ _ g5⟩
    · cases hy
  refine forL (SqL.of g6) (fun i σ H' => LI K H' x p q s d0 d1 (w0 i) ∧ H' l = some (.lst [V.ref t1, .ref t2, .ref t3, .ref t4, .ref t5]) ∧ (∀ (j : Nat) (y : V), [V.ref t1, .ref t2, .ref t3, .ref t4, .ref t5][j]? = some y → ∃ T dv, y = .ref T ∧ ds0[j]? = some dv ∧ H' T = some (.tup (deedT dv))) ∧ SqL K H' sp (ns.map V.int) ∧ ∃ v3 : Option V, σ = [some (.ref sp), some (.ref x), some (.ref s), v3, none, none, none])
    ⟨li0.same sG, g6, tps0, (s05.trans sG).seq hS, _, rfl⟩ ?_ ?_ ?_
  · rintro i σ H' _ ⟨_, h, _⟩
    exact SqL.of h
  · rintro i y σ J1 hy ⟨li, hlst, tps, hsp, v3, rfl⟩
    obtain ⟨T, dv, rfl, hd, hT⟩ := tps i y hy
    obtain ⟨hn, hw⟩ := ds0_ok i dv hd
    have hlh := li.g.ok.lh
    ((try (conv => whnf)); repeat (first | (refine cndT rfl ?_; (try (conv => whnf))) | (refine cndF rfl ?_; (try (conv => whnf)))))
    unfold P_l_done
    refine ⟨x, p, q, T, w0 i, dv, rfl, ek, li.w, rfl, hT, ds0_any i dv hd, by omega, li.g.ok.lk, li.g.ok.nk, (fun r tv F J hr => by rw [hn] at hr; cases hr), fun J2 _ k2 w2 => ?_⟩
    have o2 := li.st k2
    have T2 := li.kp k2 hT (fun _ z => by cases z) (fun _ z => by cases z)
    ((try (conv => whnf)); repeat (first | (refine cndT rfl ?_; (try (conv => whnf))) | (refine cndF rfl ?_; (try (conv => whnf)))))
    refine ⟨rfl, ?_⟩
    ((try (conv => whnf)); repeat (first | (refine cndT rfl ?_; (try (conv => whnf))) | (refine cndF rfl ?_; (try (conv => whnf)))))
    obtain ⟨g, d, ed, en, hf, hok⟩ := step_of li.g hn
    have T2' := T2
    rw [ed] at T2'
    refine ⟨s, d0, d1, T, w0 i, d, rfl, o2, rfl, T2', hf, li.g.ok.ow, ⟨li.g.ok.ok, hok⟩, li.g.ok.nk, by omega, li.g.ok.lk, fun J3 k3 e0 e1 => ?_⟩
    rw [← en] at e0 e1
    have li3 := LI.next w2 o2 g li.n0 li.n1 k3 e0 e1
    rw [← hw] at li3
    refine ⟨li3, o2.kp k3 (li.kp k2 hlst (fun _ z => by cases z) (fun _ z => by cases z)) (fun _ z => by cases z) (fun _ z => by cases z), fun j y hy => ?_, o2.sq k3 (li.sq k2 hsp), _, rfl⟩
    obtain ⟨T', dv', e1', e2', e3'⟩ := tps j y hy
    exact ⟨T', dv', e1', e2', o2.kp k3 (li.kp k2 e3' (fun _ z => by cases z) (fun _ z => by cases z)) (fun _ z => by cases z) (fun _ z => by cases z)⟩
  rintro σ H6 ⟨li, -, -, hsp, v3, rfl⟩
  generalize w0 _ = W at li
  ((try (conv => whnf)); repeat (first | (refine cndT rfl ?_; (try (conv => whnf))) | (refine cndF rfl ?_; (try (conv => whnf)))))
  refine ⟨40, rfl, slL hsp ?_⟩
  (intro l1 n11; generalize hG : _root_.L2.upd _ l1 _ = H7; have s7 := sameOf n11 hG; have e7 := atOf hG; clear hG; ((try (conv => whnf)); repeat (first | (refine cndT rfl ?_; (try (conv => whnf))) | (refine cndF rfl ?_; (try (conv => whnf))))))
  refine ⟨by show 2 ≤ sizeLine; decide, ?_⟩
  (intro l2 n12; generalize hG : _root_.L2.upd _ l2 _ = H8; have s8 := sameOf n12 hG; have e8 := atOf hG; clear hG; ((try (conv => whnf)); repeat (first | (refine cndT rfl ?_; (try (conv => whnf))) | (refine cndF rfl ?_; (try (conv => whnf))))))
  left
  have hcl : (cutV (ns.map V.int) none (some 40)).length ≤ 63 := Nat.le_trans (cutV_length _ _ _) (by rw [List.length_map]; exact hl)
  refine ⟨l1, l2, _, _, rfl, rfl, s8 _ _ e7, e8, Nat.le_trans (Nat.add_le_add_right hcl _) (by show 65 ≤ sizeLine; decide), ?_⟩
  (intro l n13; generalize hG : _root_.L2.upd _ l _ = H9; have s9 := sameOf n13 hG; have e9 := atOf hG; clear hG; ((try (conv => whnf)); repeat (first | (refine cndT rfl ?_; (try (conv => whnf))) | (refine cndF rfl ?_; (try (conv => whnf))))))
  left
  have hcs : ∃ cs : List Int, cutV (ns.map V.int) none (some 40) ++ [V.int 1, V.int 2] = cs.map V.int := by
    unfold cutV
    rw [← List.map_drop, ← List.map_take]
    exact ⟨_ ++ [1, 2], by rw [List.map_append]; rfl⟩
  obtain ⟨cs, hcs⟩ := hcs
  rw [hcs] at e9
  have li9 := li.same ((s7.trans s8).trans s9)
  clear hcs hcl
  refine ⟨_, SqL.of e9, ?_⟩
  refine forL (SqL.of e9) (fun i σ H' => ∃ W, LI K H' x p q s d0 d1 W ∧ H' l = some (.lst (cs.map V.int)) ∧ ∃ v3 v4 v5 v6 : Option V, σ = [some (.ref sp), some (.ref x), some (.ref s), v3, v4, v5, v6]) ⟨_, li9, e9, _, _, _, _, rfl⟩ ?_ ?_ ?_
  · rintro i σ H' _ ⟨W, _, h, -⟩
    exact SqL.of h
  · clear li9 e9 li
    rintro i v σ H' hv ⟨W, h, hlst, v3, v4, v5, v6, rfl⟩
    obtain ⟨c, hc, rfl⟩ := List.mem_map.mp (List.mem_of_getElem? hv)
    have hlh := h.g.ok.lh
    have hlk := h.g.ok.lk
    have hnm : ∀ e ∈ W.hv, e.1.length ≤ 20000 := fun e he => by have := nameS_len (h.g.nm e he); omega
    have hnk : ∀ e ∈ W.kn, e.1.1.length ≤ 20000 ∧ e.1.2.length ≤ 20000 := fun e he => by
      obtain ⟨p1, p2⟩ := h.g.ok.ends e he
      obtain ⟨j1, z1, hz1, ez1⟩ := getA_ex p1
      obtain ⟨j2, z2, hz2, ez2⟩ := getA_ex p2
      rw [← ez1, ← ez2]
      exact ⟨hnm _ (List.mem_of_getElem? hz1), hnm _ (List.mem_of_getElem? hz2)⟩
    ((try (conv => whnf)); repeat (first | (refine cndT rfl ?_; (try (conv => whnf))) | (refine cndF rfl ?_; (try (conv => whnf)))))
    refine ⟨⟨by decide, by decide, by decide⟩, ?_⟩
    ((try (conv => whnf)); repeat (first | (refine cndT rfl ?_; (try (conv => whnf))) | (refine cndF rfl ?_; (try (conv => whnf)))))
    refine ⟨by show 7 ≤ sizeLine; decide, ?_⟩
    (intro r nr; generalize hG : _root_.L2.upd _ r _ = J1; have t1 := sameOf nr hG; have f1 := atOf hG; clear hG; ((try (conv => whnf)); repeat (first | (refine cndT rfl ?_; (try (conv => whnf))) | (refine cndF rfl ?_; (try (conv => whnf))))))
    refine ⟨r, c, [18, 12, 420, 12, 420, 10 ^ Int.toNat 9, 14], rfl, rfl, SqL.of f1, by decide, by decide, fun y xs J2 ny t2 f2 hyl hyr => ?_⟩
    obtain ⟨x0, x1, x2, x3, x4, x5, x6, rfl⟩ : ∃ x0 x1 x2 x3 x4 x5 x6 : Int, xs = [x0, x1, x2, x3, x4, x5, x6] := by
      match xs, hyl with
      | [x0, x1, x2, x3, x4, x5, x6], _ => exact ⟨_, _, _, _, _, _, _, rfl⟩
    ((try (conv => whnf)); repeat (first | (refine cndT rfl ?_; (try (conv => whnf))) | (refine cndF rfl ?_; (try (conv => whnf)))))
    have h2 := (h.same t1).same t2
    obtain ⟨g6a, g6b⟩ := hyr 6 _ _ rfl rfl
    refine ⟨s, d0, d1, y, W, x0, x1, x2, x3, x4, x5, x6, [], rfl, h2.o, rfl, SqL.of f2, by decide, g6a, g6b, by omega, by omega, h.g.ok.ok, hnm, hnk, fun dv T J3 t3 f3 hdv => ?_⟩
    have h3 := h2.same t3
    have y3 := t3 _ _ f2
    have l3 := t3 _ _ (t2 _ _ (t1 _ _ hlst))
    obtain ⟨u1, u2, u1e, u2e, u1m, u2m⟩ := deed_at dv
    ((try (conv => whnf)); repeat (first | (refine cndT rfl ?_; (try (conv => whnf))) | (refine cndF rfl ?_; (try (conv => whnf)))))
    refine ⟨s, d0, d1, T, W, dv, rfl, h3.o, rfl, f3, hdv, h.g.ok.ow, h.g.ok.ok, by omega, by omega, ⟨fun rr tv F J4 hr w t4 eF => ?_, fun J4 hn t4 => ?_⟩⟩
    · have h4 := h3.same t4
      have f4 := t4 _ _ f3
      have v4' : ∀ v ∈ deedT dv, AnyV K J4 v := fun v hv => ((hdv v hv).1).mono t4
      ((try (conv => whnf)); repeat (first | (refine cndT rfl ?_; (try (conv => whnf))) | (refine cndF rfl ?_; (try (conv => whnf)))))
      unfold P_l_done
      refine ⟨x, p, q, T, W, dv, rfl, ek, h4.w, rfl, f4, v4', by omega, hlk, h.g.ok.nk, fun r2 tv2 F2 J5 hr2 w2 t5 e5 => ?_, fun J5 hn2 => (by rw [hr] at hn2; cases hn2)⟩
      rw [hr] at hr2
      cases hr2
      have e := toldF_fun w2 w
      subst e
      have hall := doneO_all (P := AnyV K J5) (fun i => ⟨⟨"int", rfl⟩, fun _ e => by cases e⟩) (fun v hv => (v4' v hv).mono t5) hr
      obtain ⟨vs, u, t, rfl, oki, ht⟩ := refW_any w2 hall
      ((try (conv => whnf)); repeat (first | (refine cndT rfl ?_; (try (conv => whnf))) | (refine cndF rfl ?_; (try (conv => whnf)))))
      refine .inr ⟨F2, F, vs, u, t, rfl, rfl, e5, t5 _ _ eF, oki, ht, fun J6 t6 => ?_⟩
      ((try (conv => whnf)); repeat (first | (refine cndT rfl ?_; (try (conv => whnf))) | (refine cndF rfl ?_; (try (conv => whnf)))))
      refine cutN ?_
      ((try (conv => whnf)); repeat (first | (refine cndT rfl ?_; (try (conv => whnf))) | (refine cndF rfl ?_; (try (conv => whnf)))))
      refine ⟨rfl, ?_⟩
      ((try (conv => whnf)); repeat (first | (refine cndT rfl ?_; (try (conv => whnf))) | (refine cndF rfl ?_; (try (conv => whnf)))))
      have li := (h4.same t5).same t6
      have f6 := t6 _ _ (t5 _ _ f4)
      have y6 := t6 _ _ (t5 _ _ (t4 _ _ y3))
      have l6 := t6 _ _ (t5 _ _ (t4 _ _ l3))
      have v6 : ∀ v ∈ deedT dv, AnyV K J6 v := fun v hv => ((v4' v hv).mono t5).mono t6
      have W' := W
      clear W'
      generalize W = W' at li
      ((try (conv => whnf)); repeat (first | (refine cndT rfl ?_; (try (conv => whnf))) | (refine cndF rfl ?_; (try (conv => whnf)))))
      refine ⟨x, p, q, s, d0, d1, W', rfl, ek, li.w, rfl, li.o, li.g.ok, fun J7 t7 => ?_⟩
      have li7 := li.same t7
      have f7 := t7 _ _ f6
      have y7 := t7 _ _ y6
      have l7 := t7 _ _ l6
      have v7 := fun v hv => (v6 v hv).mono t7
      ((try (conv => whnf)); repeat (first | (refine cndT rfl ?_; (try (conv => whnf))) | (refine cndF rfl ?_; (try (conv => whnf)))))
      refine ixTk f7 u1e ?_
      ((try (conv => whnf)); repeat (first | (refine cndT rfl ?_; (try (conv => whnf))) | (refine cndF rfl ?_; (try (conv => whnf)))))
      refine ixTk f7 u2e ?_
      ((try (conv => whnf)); repeat (first | (refine cndT rfl ?_; (try (conv => whnf))) | (refine cndF rfl ?_; (try (conv => whnf)))))
      refine ⟨x, p, q, s, d0, d1, W', rfl, ek, li7.w, rfl, li7.o, v7 _ u1m, v7 _ u2m, li7.g.ok.nh, li7.g.ok.lh, fun J8 t8 => ?_⟩
      have li8 := li7.same t8
      ((try (conv => whnf)); repeat (first | (refine cndT rfl ?_; (try (conv => whnf))) | (refine cndF rfl ?_; (try (conv => whnf)))))
      refine ixL (SqL.of (t8 _ _ y7)) (v := .int x2) rfl ?_
      ((try (conv => whnf)); repeat (first | (refine cndT rfl ?_; (try (conv => whnf))) | (refine cndF rfl ?_; (try (conv => whnf)))))
      refine ⟨x2, rfl, fun ov J9 t9 av => ?_⟩
      have li9 := li8.same t9
      ((try (conv => whnf)); repeat (first | (refine cndT rfl ?_; (try (conv => whnf))) | (refine cndF rfl ?_; (try (conv => whnf)))))
      refine ixTk (t9 _ _ (t8 _ _ f7)) u1e ?_
      ((try (conv => whnf)); repeat (first | (refine cndT rfl ?_; (try (conv => whnf))) | (refine cndF rfl ?_; (try (conv => whnf)))))
      refine ⟨x, p, q, s, d0, d1, W', rfl, ek, li9.w, rfl, li9.o, av.1, ((v7 _ u1m).mono t8).mono t9, li9.g.ok.nh, li9.g.ok.lh, fun J10 t10 => ?_⟩
      ((try (conv => whnf)); repeat (first | (refine cndT rfl ?_; (try (conv => whnf))) | (refine cndF rfl ?_; (try (conv => whnf)))))
      exact ⟨_, li9.same t10, t10 _ _ (t9 _ _ (t8 _ _ l7)), _, _, _, _, rfl⟩
    · have h4 := h3.same t4
      have f4 := t4 _ _ f3
      have v4' : ∀ v ∈ deedT dv, AnyV K J4 v := fun v hv => ((hdv v hv).1).mono t4
      ((try (conv => whnf)); repeat (first | (refine cndT rfl ?_; (try (conv => whnf))) | (refine cndF rfl ?_; (try (conv => whnf)))))
      unfold P_l_done
      refine ⟨x, p, q, T, W, dv, rfl, ek, h4.w, rfl, f4, v4', by omega, hlk, h.g.ok.nk, (fun r2 tv2 F2 J5 hr2 => by rw [hn] at hr2; cases hr2), fun J5 _ k5 w5 => ?_⟩
      have o5 := h4.st k5
      have f5 := h4.kp k5 f4 (fun _ z => by cases z) (fun _ z => by cases z)
      have y5 := h4.kp k5 (t4 _ _ y3) (fun _ z => by cases z) (fun _ z => by cases z)
      have l5 := h4.kp k5 (t4 _ _ l3) (fun _ z => by cases z) (fun _ z => by cases z)
      have v5' : ∀ v ∈ deedT dv, AnyV K J5 v := fun v hv => (v4' v hv).kx k5 w5.hv w5.kn
      ((try (conv => whnf)); repeat (first | (refine cndT rfl ?_; (try (conv => whnf))) | (refine cndF rfl ?_; (try (conv => whnf)))))
      refine .inl ⟨rfl, rfl, fun J6 t6 => ?_⟩
      have o6 := o5.same t6
      have f6' := t6 _ _ f5
      obtain ⟨g, d, ed, en, hf, hok⟩ := step_of h.g hn
      have f6d := f6'
      rw [ed] at f6d
      ((try (conv => whnf)); repeat (first | (refine cndT rfl ?_; (try (conv => whnf))) | (refine cndF rfl ?_; (try (conv => whnf)))))
      refine cutN ?_
      ((try (conv => whnf)); repeat (first | (refine cndT rfl ?_; (try (conv => whnf))) | (refine cndF rfl ?_; (try (conv => whnf)))))
      refine ⟨rfl, ?_⟩
      ((try (conv => whnf)); repeat (first | (refine cndT rfl ?_; (try (conv => whnf))) | (refine cndF rfl ?_; (try (conv => whnf)))))
      refine ⟨s, d0, d1, T, W, d, rfl, o6, rfl, f6d, hf, h.g.ok.ow, ⟨h.g.ok.ok, hok⟩, h.g.ok.nk, by omega, hlk, fun J7 k7 e0 e1 => ?_⟩
      rw [← en] at e0 e1
      have li := LI.next (w5.same t6) o6 g h.n0 h.n1 k7 e0 e1
      have f6 := o6.kp k7 f6' (fun _ z => by cases z) (fun _ z => by cases z)
      have y6 := o6.kp k7 (t6 _ _ y5) (fun _ z => by cases z) (fun _ z => by cases z)
      have l6 := o6.kp k7 (t6 _ _ l5) (fun _ z => by cases z) (fun _ z => by cases z)
      have v6 : ∀ v ∈ deedT dv, AnyV K J7 v := fun v hv => ((v5' v hv).mono t6).kx k7 e0 e1
      generalize newW W dv = W' at li
      ((try (conv => whnf)); repeat (first | (refine cndT rfl ?_; (try (conv => whnf))) | (refine cndF rfl ?_; (try (conv => whnf)))))
      refine ⟨x, p, q, s, d0, d1, W', rfl, ek, li.w, rfl, li.o, li.g.ok, fun J7 t7 => ?_⟩
      have li7 := li.same t7
      have f7 := t7 _ _ f6
      have y7 := t7 _ _ y6
      have l7 := t7 _ _ l6
      have v7 := fun v hv => (v6 v hv).mono t7
      ((try (conv => whnf)); repeat (first | (refine cndT rfl ?_; (try (conv => whnf))) | (refine cndF rfl ?_; (try (conv => whnf)))))
      refine ixTk f7 u1e ?_
      ((try (conv => whnf)); repeat (first | (refine cndT rfl ?_; (try (conv => whnf))) | (refine cndF rfl ?_; (try (conv => whnf)))))
      refine ixTk f7 u2e ?_
      ((try (conv => whnf)); repeat (first | (refine cndT rfl ?_; (try (conv => whnf))) | (refine cndF rfl ?_; (try (conv => whnf)))))
      refine ⟨x, p, q, s, d0, d1, W', rfl, ek, li7.w, rfl, li7.o, v7 _ u1m, v7 _ u2m, li7.g.ok.nh, li7.g.ok.lh, fun J8 t8 => ?_⟩
      have li8 := li7.same t8
      ((try (conv => whnf)); repeat (first | (refine cndT rfl ?_; (try (conv => whnf))) | (refine cndF rfl ?_; (try (conv => whnf)))))
      refine ixL (SqL.of (t8 _ _ y7)) (v := .int x2) rfl ?_
      ((try (conv => whnf)); repeat (first | (refine cndT rfl ?_; (try (conv => whnf))) | (refine cndF rfl ?_; (try (conv => whnf)))))
      refine ⟨x2, rfl, fun ov J9 t9 av => ?_⟩
      have li9 := li8.same t9
      ((try (conv => whnf)); repeat (first | (refine cndT rfl ?_; (try (conv => whnf))) | (refine cndF rfl ?_; (try (conv => whnf)))))
      refine ixTk (t9 _ _ (t8 _ _ f7)) u1e ?_
      ((try (conv => whnf)); repeat (first | (refine cndT rfl ?_; (try (conv => whnf))) | (refine cndF rfl ?_; (try (conv => whnf)))))
      refine ⟨x, p, q, s, d0, d1, W', rfl, ek, li9.w, rfl, li9.o, av.1, ((v7 _ u1m).mono t8).mono t9, li9.g.ok.nh, li9.g.ok.lh, fun J10 t10 => ?_⟩
      ((try (conv => whnf)); repeat (first | (refine cndT rfl ?_; (try (conv => whnf))) | (refine cndF rfl ?_; (try (conv => whnf)))))
      exact ⟨_, li9.same t10, t10 _ _ (t9 _ _ (t8 _ _ l7)), _, _, _, _, rfl⟩
  · rintro σ H' _
    exact k H'

end Wk12
namespace Wk12
open PySem L2 PySem.Spec PyProof.Rows Rf
def top (i : Nat) : Stmt := PySem.Challenge.pw_evencut_k12_deeds_refused.main.body.getD i (.Pass ⟨0, 0, 0, 0⟩)
def d_Web_init : He.DefD := ⟨("Web", some "__init__"), "__init__", "Web.__init__", defArgs (inClass (top 22) 0), defBody (inClass (top 22) 0), defScope (inClass (top 22) 0), [], []⟩
def d_is_name : He.DefD := ⟨("is_name", none), "is_name", "is_name", defArgs (top 17), defBody (top 17), defScope (top 17), [], []⟩
def d_NoName_init : He.DefD := ⟨("NoName", some "__init__"), "__init__", "NoName.__init__", defArgs (inClass (top 3) 0), defBody (inClass (top 3) 0), defScope (inClass (top 3) 0), [], []⟩
def d_Taken_init : He.DefD := ⟨("Taken", some "__init__"), "__init__", "Taken.__init__", defArgs (inClass (top 9) 0), defBody (inClass (top 9) 0), defScope (inClass (top 9) 0), [], []⟩
def d_TooMany_init : He.DefD := ⟨("TooMany", some "__init__"), "__init__", "TooMany.__init__", defArgs (inClass (top 11) 0), defBody (inClass (top 11) 0), defScope (inClass (top 11) 0), [], []⟩
def d_Beyond_init : He.DefD := ⟨("Beyond", some "__init__"), "__init__", "Beyond.__init__", defArgs (inClass (top 12) 0), defBody (inClass (top 12) 0), defScope (inClass (top 12) 0), [], []⟩
def d_is_whole : He.DefD := ⟨("is_whole", none), "is_whole", "is_whole", defArgs (top 16), defBody (top 16), defScope (top 16), [], []⟩
def d_NoWeight_init : He.DefD := ⟨("NoWeight", some "__init__"), "__init__", "NoWeight.__init__", defArgs (inClass (top 4) 0), defBody (inClass (top 4) 0), defScope (inClass (top 4) 0), [], []⟩
def d_Web_need_weight : He.DefD := ⟨("Web", some "need_weight"), "need_weight", "Web.need_weight", defArgs (inClass (top 22) 5), defBody (inClass (top 22) 5), defScope (inClass (top 22) 5), [], []⟩
def d_Web_total : He.DefD := ⟨("Web", some "total"), "total", "Web.total", defArgs (inClass (top 22) 17), defBody (inClass (top 22) 17), defScope (inClass (top 22) 17), [], []⟩
def d_Web_put : He.DefD := ⟨("Web", some "put"), "put", "Web.put", defArgs (inClass (top 22) 6), defBody (inClass (top 22) 6), defScope (inClass (top 22) 6), [], []⟩
def d_NoPlace_init : He.DefD := ⟨("NoPlace", some "__init__"), "__init__", "NoPlace.__init__", defArgs (inClass (top 6) 0), defBody (inClass (top 6) 0), defScope (inClass (top 6) 0), [], []⟩
def d_Web_need_place : He.DefD := ⟨("Web", some "need_place"), "need_place", "Web.need_place", defArgs (inClass (top 22) 1), defBody (inClass (top 22) 1), defScope (inClass (top 22) 1), [], []⟩
def d_Web_weigh : He.DefD := ⟨("Web", some "weigh"), "weigh", "Web.weigh", defArgs (inClass (top 22) 7), defBody (inClass (top 22) 7), defScope (inClass (top 22) 7), [], []⟩
def d_Web_drop : He.DefD := ⟨("Web", some "drop"), "drop", "Web.drop", defArgs (inClass (top 22) 8), defBody (inClass (top 22) 8), defScope (inClass (top 22) 8), [], []⟩
def d_NoStrength_init : He.DefD := ⟨("NoStrength", some "__init__"), "__init__", "NoStrength.__init__", defArgs (inClass (top 5) 0), defBody (inClass (top 5) 0), defScope (inClass (top 5) 0), [], []⟩
def d_Tied_init : He.DefD := ⟨("Tied", some "__init__"), "__init__", "Tied.__init__", defArgs (inClass (top 10) 0), defBody (inClass (top 10) 0), defScope (inClass (top 10) 0), [], []⟩
def d_Same_init : He.DefD := ⟨("Same", some "__init__"), "__init__", "Same.__init__", defArgs (inClass (top 8) 0), defBody (inClass (top 8) 0), defScope (inClass (top 8) 0), [], []⟩
def d_Web_need_two : He.DefD := ⟨("Web", some "need_two"), "need_two", "Web.need_two", defArgs (inClass (top 22) 2), defBody (inClass (top 22) 2), defScope (inClass (top 22) 2), [], []⟩
def d_Web_knot : He.DefD := ⟨("Web", some "knot"), "knot", "Web.knot", defArgs (inClass (top 22) 3), defBody (inClass (top 22) 3), defScope (inClass (top 22) 3), [], []⟩
def d_Web_force : He.DefD := ⟨("Web", some "force"), "force", "Web.force", defArgs (inClass (top 22) 18), defBody (inClass (top 22) 18), defScope (inClass (top 22) 18), [], []⟩
def d_Web_tie : He.DefD := ⟨("Web", some "tie"), "tie", "Web.tie", defArgs (inClass (top 22) 9), defBody (inClass (top 22) 9), defScope (inClass (top 22) 9), [], []⟩
def d_NoTie_init : He.DefD := ⟨("NoTie", some "__init__"), "__init__", "NoTie.__init__", defArgs (inClass (top 7) 0), defBody (inClass (top 7) 0), defScope (inClass (top 7) 0), [], []⟩
def d_Web_need_tie : He.DefD := ⟨("Web", some "need_tie"), "need_tie", "Web.need_tie", defArgs (inClass (top 22) 4), defBody (inClass (top 22) 4), defScope (inClass (top 22) 4), [], []⟩
def d_Web_more : He.DefD := ⟨("Web", some "more"), "more", "Web.more", defArgs (inClass (top 22) 10), defBody (inClass (top 22) 10), defScope (inClass (top 22) 10), [], []⟩
def d_Web_untie : He.DefD := ⟨("Web", some "untie"), "untie", "Web.untie", defArgs (inClass (top 22) 11), defBody (inClass (top 22) 11), defScope (inClass (top 22) 11), [], []⟩
def d_l_done : He.DefD := ⟨("_law_done", none), "_law_done", "_law_done", defArgs (top 41), defBody (top 41), defScope (top 41), [], []⟩
def d_l_tied : He.DefD := ⟨("_law_tied", none), "_law_tied", "_law_tied", defArgs (top 31), defBody (top 31), defScope (top 31), [], []⟩
def d_l_apply : He.DefD := ⟨("_law_apply", none), "_law_apply", "_law_apply", defArgs (top 37), defBody (top 37), defScope (top 37), [], []⟩
def d_l_row : He.DefD := ⟨("_law_row", none), "_law_row", "_law_row", defArgs (top 24), defBody (top 24), defScope (top 24), [], []⟩
def d_l_odd : He.DefD := ⟨("_law_odd", none), "_law_odd", "_law_odd", defArgs (top 28), defBody (top 28), defScope (top 28), [], []⟩
def d_l_name : He.DefD := ⟨("_law_name", none), "_law_name", "_law_name", defArgs (top 27), defBody (top 27), defScope (top 27), [], []⟩
def d_l_any_name : He.DefD := ⟨("_law_any_name", none), "_law_any_name", "_law_any_name", defArgs (top 43), defBody (top 43), defScope (top 43), [], []⟩
def d_l_number : He.DefD := ⟨("_law_number", none), "_law_number", "_law_number", defArgs (top 29), defBody (top 29), defScope (top 29), [], []⟩
def d_l_drawn : He.DefD := ⟨("_law_drawn", none), "_law_drawn", "_law_drawn", defArgs (top 44), defBody (top 44), defScope (top 44), [], []⟩
def d_l_is_name : He.DefD := ⟨("_law_is_name", none), "_law_is_name", "_law_is_name", defArgs (top 25), defBody (top 25), defScope (top 25), [], []⟩
def d_l_is_whole : He.DefD := ⟨("_law_is_whole", none), "_law_is_whole", "_law_is_whole", defArgs (top 26), defBody (top 26), defScope (top 26), [], []⟩
def d_l_put_fault : He.DefD := ⟨("_law_put_fault", none), "_law_put_fault", "_law_put_fault", defArgs (top 32), defBody (top 32), defScope (top 32), [], []⟩
def d_l_weigh_fault : He.DefD := ⟨("_law_weigh_fault", none), "_law_weigh_fault", "_law_weigh_fault", defArgs (top 33), defBody (top 33), defScope (top 33), [], []⟩
def d_l_two_fault : He.DefD := ⟨("_law_two_fault", none), "_law_two_fault", "_law_two_fault", defArgs (top 30), defBody (top 30), defScope (top 30), [], []⟩
def d_l_tie_fault : He.DefD := ⟨("_law_tie_fault", none), "_law_tie_fault", "_law_tie_fault", defArgs (top 34), defBody (top 34), defScope (top 34), [], []⟩
def d_l_more_fault : He.DefD := ⟨("_law_more_fault", none), "_law_more_fault", "_law_more_fault", defArgs (top 35), defBody (top 35), defScope (top 35), [], []⟩
def d_l_fault : He.DefD := ⟨("_law_fault", none), "_law_fault", "_law_fault", defArgs (top 36), defBody (top 36), defScope (top 36), [], []⟩
def d_l_alike : He.DefD := ⟨("_law_alike", none), "_law_alike", "_law_alike", defArgs (top 42), defBody (top 42), defScope (top 42), [], []⟩
def d_l_ties : He.DefD := ⟨("_law_ties", none), "_law_ties", "_law_ties", defArgs (top 38), defBody (top 38), defScope (top 38), [], []⟩
def d_Web_ties : He.DefD := ⟨("Web", some "ties"), "ties", "Web.ties", defArgs (inClass (top 22) 14), defBody (inClass (top 22) 14), defScope (inClass (top 22) 14), [], []⟩
def d_Web_names : He.DefD := ⟨("Web", some "names"), "names", "Web.names", defArgs (inClass (top 22) 12), defBody (inClass (top 22) 12), defScope (inClass (top 22) 12), [], []⟩
def d_Web_strength : He.DefD := ⟨("Web", some "strength"), "strength", "Web.strength", defArgs (inClass (top 22) 15), defBody (inClass (top 22) 15), defScope (inClass (top 22) 15), [], []⟩
def d_Web_near : He.DefD := ⟨("Web", some "near"), "near", "Web.near", defArgs (inClass (top 22) 16), defBody (inClass (top 22) 16), defScope (inClass (top 22) 16), [], []⟩
def d_Web_weight : He.DefD := ⟨("Web", some "weight"), "weight", "Web.weight", defArgs (inClass (top 22) 13), defBody (inClass (top 22) 13), defScope (inClass (top 22) 13), [], []⟩
def d_l_shows : He.DefD := ⟨("_law_shows", none), "_law_shows", "_law_shows", defArgs (top 39), defBody (top 39), defScope (top 39), [], []⟩
def d_l_asked : He.DefD := ⟨("_law_asked", none), "_law_asked", "_law_asked", defArgs (top 45), defBody (top 45), defScope (top 45), [], []⟩
def d_l_questions : He.DefD := ⟨("_law_questions", none), "_law_questions", "_law_questions", defArgs (top 46), defBody (top 46), defScope (top 46), [], []⟩
def d_law : He.DefD := ⟨("law", none), "law", "law", defArgs (top 47), defBody (top 47), defScope (top 47), [], []⟩
def d_hot_l_named : He.DefD := ⟨("_law_named", none), "_law_named", "_law_named", defArgs (top 40), defBody (top 40), defScope (top 40), [], []⟩
def fn : List He.DefD := [d_Web_init, d_is_name, d_NoName_init, d_Taken_init, d_TooMany_init, d_Beyond_init, d_is_whole, d_NoWeight_init, d_Web_need_weight, d_Web_total, d_Web_put, d_NoPlace_init, d_Web_need_place, d_Web_weigh, d_Web_drop, d_NoStrength_init, d_Tied_init, d_Same_init, d_Web_need_two, d_Web_knot, d_Web_force, d_Web_tie, d_NoTie_init, d_Web_need_tie, d_Web_more, d_Web_untie, d_l_done, d_l_tied, d_l_apply, d_l_row, d_l_odd, d_l_name, d_l_any_name, d_l_number, d_l_drawn, d_l_is_name, d_l_is_whole, d_l_put_fault, d_l_weigh_fault, d_l_two_fault, d_l_tie_fault, d_l_more_fault, d_l_fault, d_l_alike, d_l_ties, d_Web_ties, d_Web_names, d_Web_strength, d_Web_near, d_Web_weight, d_l_shows, d_l_asked, d_l_questions, d_law, d_hot_l_named]
def fa : List He.Fa := ([.cls "Web", .glo "is_name", .free "len", .int "LONGEST_NAME" 8, .free "str", .free "isinstance", .str "LETTERS" "abcdefghijklmnopqrstuvwxyz", .free "all", .glo "CutError", .glo "is_whole", .free "bool", .free "int", .int "MOST" 1000000000, .glo "NoWeight", .meth "Web" "need_weight", .free "sum", .meth "Web" "total", .glo "NoName", .glo "Taken", .int "MOST_PLACES" 60, .glo "TooMany", .glo "Beyond", .meth "Web" "put", .glo "NoPlace", .meth "Web" "need_place", .meth "Web" "weigh", .free "list", .meth "Web" "drop", .glo "Same", .meth "Web" "need_two"] : List He.Fa) ++ ([.meth "Web" "knot", .meth "Web" "force", .glo "NoStrength", .glo "Tied", .int "MOST_TIES" 200, .meth "Web" "tie", .glo "NoTie", .meth "Web" "need_tie", .meth "Web" "more", .meth "Web" "untie", .glo "_law_done", .glo "_law_tied", .glo "_law_apply", .glo "_law_row", .free "range", .glo "_law_odd", .glo "_law_name", .glo "_law_any_name", .glo "_law_number", .glo "_law_drawn", .glo "_law_is_name", .glo "_law_is_whole", .glo "_law_put_fault", .glo "_law_weigh_fault", .glo "_law_two_fault", .glo "_law_tie_fault", .glo "_law_more_fault", .glo "_law_fault", .glo "_law_alike", .glo "_law_ties"] : List He.Fa) ++ ([.free "enumerate", .meth "Web" "ties", .meth "Web" "names", .meth "Web" "strength", .meth "Web" "near", .meth "Web" "weight", .glo "_law_shows", .glo "_law_asked", .glo "_law_questions", .glo "law", .glo "Web", .mkr "Web", .glo "_law_named", .free "ValueError", .noat "Web" "heavy", .noat "Web" "knots"] : List He.Fa)
def exL : List (PySem.W.Frag → Bool) := [fun K => errB K errsL testsL, fun K => bexB K (He.ga K "CutError"), fun K => exInitB K (He.ga K "NoName"), fun K => oexB K (He.ga K "NoName"), fun K => exInitB K (He.ga K "Taken"), fun K => oexB K (He.ga K "Taken"), fun K => exInitB K (He.ga K "TooMany"), fun K => oexB K (He.ga K "TooMany"), fun K => exInitB K (He.ga K "Beyond"), fun K => oexB K (He.ga K "Beyond"), fun K => exInitB K (He.ga K "NoWeight"), fun K => oexB K (He.ga K "NoWeight"), fun K => exInitB K (He.ga K "NoPlace"), fun K => oexB K (He.ga K "NoPlace"), fun K => exInitB K (He.ga K "NoStrength"), fun K => oexB K (He.ga K "NoStrength"), fun K => exInitB K (He.ga K "Tied"), fun K => oexB K (He.ga K "Tied"), fun K => exInitB K (He.ga K "Same"), fun K => oexB K (He.ga K "Same"), fun K => exInitB K (He.ga K "NoTie"), fun K => oexB K (He.ga K "NoTie")]
def exB (K : PySem.W.Frag) : Bool := exL.all fun f => f K
theorem ex_at {K : PySem.W.Frag} (ce : exB K = true) (i : Nat) {f : PySem.W.Frag → Bool} (h : exL[i]? = some f) : f K = true := List.all_eq_true.mp ce f (List.mem_of_getElem? h)
section
variable {P : Program} {w : World} {K : PySem.W.Frag} {h : Heap} {mg : Str → Option Value} {base : Heap}
theorem fk_hot_l_named (X : K.In h) (G : h.Ns mainGlobals mg) (c : He.SaysD fa fn K) (ce : exB K = true) : FnEC P w K mg base "_law_named" 1 (spE_l_named K) :=
  def_he (N := ["_law_e", "_law_found"]) (ps := ["_law_e"]) (G := [("NoName", .con (.ref (He.ga K "NoName"))), ("isinstance", .bl), ("NoWeight", .con (.ref (He.ga K "NoWeight"))), ("NoStrength", .con (.ref (He.ga K "NoStrength"))), ("NoPlace", .con (.ref (He.ga K "NoPlace"))), ("NoTie", .con (.ref (He.ga K "NoTie"))), ("Same", .con (.ref (He.ga K "Same"))), ("Taken", .con (.ref (He.ga K "Taken"))), ("Tied", .con (.ref (He.ga K "Tied"))), ("TooMany", .con (.ref (He.ga K "TooMany"))), ("Beyond", .con (.ref (He.ga K "Beyond"))), ("ValueError", .bl), ("len", .bl)]) (Hs := []) (t := t_hot_l_named K) (c.def_ 54 (d := d_hot_l_named) (by rfl)) (He.glo_ok X G (c.fact 72 (by rfl))) (by decide +kernel) 60 (fun a c d vs H Q E h => match vs, h with | [_], _ => rfl) (fun _ _ _ _ => by kernel_rfl) (fun a c d vs H Q E h => match vs, h with | [a0], h => pure_hot_l_named h) ⟨⟨_, He.glo_ok X G (c.fact 17 (by rfl)), rfl⟩, He.free_ok X G (c.fact 5 (by rfl)), ⟨_, He.glo_ok X G (c.fact 13 (by rfl)), rfl⟩, ⟨_, He.glo_ok X G (c.fact 32 (by rfl)), rfl⟩, ⟨_, He.glo_ok X G (c.fact 23 (by rfl)), rfl⟩, ⟨_, He.glo_ok X G (c.fact 36 (by rfl)), rfl⟩, ⟨_, He.glo_ok X G (c.fact 28 (by rfl)), rfl⟩, ⟨_, He.glo_ok X G (c.fact 18 (by rfl)), rfl⟩, ⟨_, He.glo_ok X G (c.fact 33 (by rfl)), rfl⟩, ⟨_, He.glo_ok X G (c.fact 20 (by rfl)), rfl⟩, ⟨_, He.glo_ok X G (c.fact 21 (by rfl)), rfl⟩, He.free_ok X G (c.fact 73 (by rfl)), He.free_ok X G (c.fact 2 (by rfl)), trivial⟩ trivial (fun _ _ _ _ _ _ us hl => match us, hl with | [_], _ => rfl)
theorem fk_Web_init (X : K.In h) (G : h.Ns mainGlobals mg) (c : He.SaysD fa fn K) (ce : exB K = true) : ClC P w K mg base "Web" (He.ga K "Web") 1 (sp_Web_init K) [] :=
  def_cl (N := ["self"]) (ps := ["self"]) (G := []) (M := []) (Hs := []) (t := t_Web_init K) (c.def_ 0 (d := d_Web_init) (by rfl)) (He.glo_ok X G (c.fact 70 (by rfl))) (He.mkr_ok (c.fact 71 (by rfl))) (by decide +kernel) 60 (fun vs H Q E h => match vs, h with | [_], _ => rfl) (fun _ => by kernel_rfl) (fun vs H Q E h => match vs, h with | [a0], h => pure_Web_init h) trivial trivial trivial (fun _ _ _ _ _ _ us hl => match us, hl with | [_], _ => rfl)
theorem fk_is_name (X : K.In h) (G : h.Ns mainGlobals mg) (c : He.SaysD fa fn K) (ce : exB K = true) : FnC P w K mg base "is_name" 1 (sp_is_name K) [] :=
  def_fn (N := ["thing", "sign"]) (ps := ["thing"]) (G := [("len", .bl), ("LONGEST_NAME", .con (.int 8)), ("str", .bl), ("isinstance", .bl), ("LETTERS", .con (.str "abcdefghijklmnopqrstuvwxyz")), ("all", .bl)]) (M := []) (Hs := []) (t := t_is_name K) (c.def_ 1 (d := d_is_name) (by rfl)) (He.glo_ok X G (c.fact 1 (by rfl))) (by decide +kernel) 60 (fun vs H Q E h => match vs, h with | [_], _ => rfl) (fun _ => by kernel_rfl) (fun vs H Q E h => match vs, h with | [a0], h => pure_is_name h) ⟨He.free_ok X G (c.fact 2 (by rfl)), (let ⟨t, e⟩ := He.int_ok X G (c.fact 3 (by rfl)); ⟨_, e, ⟨t, rfl⟩⟩), He.free_ok X G (c.fact 4 (by rfl)), He.free_ok X G (c.fact 5 (by rfl)), (let ⟨t, e⟩ := He.str_ok X G (c.fact 6 (by rfl)); ⟨_, e, ⟨t, rfl⟩⟩), He.free_ok X G (c.fact 7 (by rfl)), trivial⟩ trivial trivial (fun _ _ _ _ _ _ us hl => match us, hl with | [_], _ => rfl)
theorem fk_NoName_init (X : K.In h) (G : h.Ns mainGlobals mg) (c : He.SaysD fa fn K) (ce : exB K = true) : ExC P w K mg base "NoName" (He.ga K "NoName") 1 (sp_NoName_init K) [] :=
  def_ex (N := ["self", "found"]) (ps := ["self", "found"]) (G := [("CutError", .bex (He.ga K "CutError"))]) (M := []) (Hs := []) (t := t_NoName_init K) (c.def_ 2 (d := d_NoName_init) (by rfl)) (He.glo_ok X G (c.fact 17 (by rfl))) (oexB_ok (ex_at ce 3 (by rfl))) (exInitB_ok (ex_at ce 2 (by rfl))).1 (exInitB_ok (ex_at ce 2 (by rfl))).2 (by decide +kernel) 60 (fun vs H Q E h => match vs, h with | [_, _], _ => rfl) (fun _ => by kernel_rfl) (fun vs H Q E h => match vs, h with | [a0, a1], h => pure_NoName_init h) ⟨⟨He.glo_ok X G (c.fact 8 (by rfl)), bexB_ok (ex_at ce 1 (by rfl))⟩, trivial⟩ trivial trivial (fun _ _ _ _ _ _ us hl => match us, hl with | [_, _], _ => rfl)
theorem fk_Taken_init (X : K.In h) (G : h.Ns mainGlobals mg) (c : He.SaysD fa fn K) (ce : exB K = true) : ExC P w K mg base "Taken" (He.ga K "Taken") 1 (sp_Taken_init K) [] :=
  def_ex (N := ["self", "found"]) (ps := ["self", "found"]) (G := [("CutError", .bex (He.ga K "CutError"))]) (M := []) (Hs := []) (t := t_Taken_init K) (c.def_ 3 (d := d_Taken_init) (by rfl)) (He.glo_ok X G (c.fact 18 (by rfl))) (oexB_ok (ex_at ce 5 (by rfl))) (exInitB_ok (ex_at ce 4 (by rfl))).1 (exInitB_ok (ex_at ce 4 (by rfl))).2 (by decide +kernel) 60 (fun vs H Q E h => match vs, h with | [_, _], _ => rfl) (fun _ => by kernel_rfl) (fun vs H Q E h => match vs, h with | [a0, a1], h => pure_Taken_init h) ⟨⟨He.glo_ok X G (c.fact 8 (by rfl)), bexB_ok (ex_at ce 1 (by rfl))⟩, trivial⟩ trivial trivial (fun _ _ _ _ _ _ us hl => match us, hl with | [_, _], _ => rfl)
theorem fk_TooMany_init (X : K.In h) (G : h.Ns mainGlobals mg) (c : He.SaysD fa fn K) (ce : exB K = true) : ExC P w K mg base "TooMany" (He.ga K "TooMany") 1 (sp_TooMany_init K) [] :=
  def_ex (N := ["self", "many"]) (ps := ["self", "many"]) (G := [("CutError", .bex (He.ga K "CutError"))]) (M := []) (Hs := []) (t := t_TooMany_init K) (c.def_ 4 (d := d_TooMany_init) (by rfl)) (He.glo_ok X G (c.fact 20 (by rfl))) (oexB_ok (ex_at ce 7 (by rfl))) (exInitB_ok (ex_at ce 6 (by rfl))).1 (exInitB_ok (ex_at ce 6 (by rfl))).2 (by decide +kernel) 60 (fun vs H Q E h => match vs, h with | [_, _], _ => rfl) (fun _ => by kernel_rfl) (fun vs H Q E h => match vs, h with | [a0, a1], h => pure_TooMany_init h) ⟨⟨He.glo_ok X G (c.fact 8 (by rfl)), bexB_ok (ex_at ce 1 (by rfl))⟩, trivial⟩ trivial trivial (fun _ _ _ _ _ _ us hl => match us, hl with | [_, _], _ => rfl)
theorem fk_Beyond_init (X : K.In h) (G : h.Ns mainGlobals mg) (c : He.SaysD fa fn K) (ce : exB K = true) : ExC P w K mg base "Beyond" (He.ga K "Beyond") 1 (sp_Beyond_init K) [] :=
  def_ex (N := ["self", "many"]) (ps := ["self", "many"]) (G := [("CutError", .bex (He.ga K "CutError"))]) (M := []) (Hs := []) (t := t_Beyond_init K) (c.def_ 5 (d := d_Beyond_init) (by rfl)) (He.glo_ok X G (c.fact 21 (by rfl))) (oexB_ok (ex_at ce 9 (by rfl))) (exInitB_ok (ex_at ce 8 (by rfl))).1 (exInitB_ok (ex_at ce 8 (by rfl))).2 (by decide +kernel) 60 (fun vs H Q E h => match vs, h with | [_, _], _ => rfl) (fun _ => by kernel_rfl) (fun vs H Q E h => match vs, h with | [a0, a1], h => pure_Beyond_init h) ⟨⟨He.glo_ok X G (c.fact 8 (by rfl)), bexB_ok (ex_at ce 1 (by rfl))⟩, trivial⟩ trivial trivial (fun _ _ _ _ _ _ us hl => match us, hl with | [_, _], _ => rfl)
theorem fk_is_whole (X : K.In h) (G : h.Ns mainGlobals mg) (c : He.SaysD fa fn K) (ce : exB K = true) : FnC P w K mg base "is_whole" 1 (sp_is_whole K) [] :=
  def_fn (N := ["thing", "low", "high"]) (ps := ["thing", "low", "high"]) (G := [("bool", .bl), ("isinstance", .bl), ("int", .bl)]) (M := []) (Hs := []) (t := t_is_whole K) (c.def_ 6 (d := d_is_whole) (by rfl)) (He.glo_ok X G (c.fact 9 (by rfl))) (by decide +kernel) 60 (fun vs H Q E h => match vs, h with | [_, _, _], _ => rfl) (fun _ => by kernel_rfl) (fun vs H Q E h => match vs, h with | [a0, a1, a2], h => pure_is_whole h) ⟨He.free_ok X G (c.fact 10 (by rfl)), He.free_ok X G (c.fact 5 (by rfl)), He.free_ok X G (c.fact 11 (by rfl)), trivial⟩ trivial trivial (fun _ _ _ _ _ _ us hl => match us, hl with | [_, _, _], _ => rfl)
theorem fk_NoWeight_init (X : K.In h) (G : h.Ns mainGlobals mg) (c : He.SaysD fa fn K) (ce : exB K = true) : ExC P w K mg base "NoWeight" (He.ga K "NoWeight") 1 (sp_NoWeight_init K) [] :=
  def_ex (N := ["self", "found"]) (ps := ["self", "found"]) (G := [("CutError", .bex (He.ga K "CutError"))]) (M := []) (Hs := []) (t := t_NoWeight_init K) (c.def_ 7 (d := d_NoWeight_init) (by rfl)) (He.glo_ok X G (c.fact 13 (by rfl))) (oexB_ok (ex_at ce 11 (by rfl))) (exInitB_ok (ex_at ce 10 (by rfl))).1 (exInitB_ok (ex_at ce 10 (by rfl))).2 (by decide +kernel) 60 (fun vs H Q E h => match vs, h with | [_, _], _ => rfl) (fun _ => by kernel_rfl) (fun vs H Q E h => match vs, h with | [a0, a1], h => pure_NoWeight_init h) ⟨⟨He.glo_ok X G (c.fact 8 (by rfl)), bexB_ok (ex_at ce 1 (by rfl))⟩, trivial⟩ trivial trivial (fun _ _ _ _ _ _ us hl => match us, hl with | [_, _], _ => rfl)
theorem fk_Web_need_weight (X : K.In h) (G : h.Ns mainGlobals mg) (c : He.SaysD fa fn K) (ce : exB K = true) : MeC P w K mg base "need_weight" (He.ga K "Web") 3 (sp_Web_need_weight K) [] :=
  def_me (N := ["self", "weight"]) (ps := ["self", "weight"]) (G := [("MOST", .con (.int 1000000000)), ("is_whole", .fn (sp_is_whole K) []), ("NoWeight", .exc (He.ga K "NoWeight") (sp_NoWeight_init K) [])]) (M := []) (Hs := []) (t := t_Web_need_weight K) (c.def_ 8 (d := d_Web_need_weight) (by rfl)) (He.cls_ok (c.fact 0 (by rfl))) (He.meth_ok (c.fact 14 (by rfl))) (by decide +kernel) 60 (fun vs H Q E h => match vs, h with | [_, _], _ => rfl) (fun _ => by kernel_rfl) (fun vs H Q E h => match vs, h with | [a0, a1], h => pure_Web_need_weight h) ⟨(let ⟨t, e⟩ := He.int_ok X G (c.fact 12 (by rfl)); ⟨_, e, ⟨t, rfl⟩⟩), ⟨1, by decide, fk_is_whole X G c ce⟩, ⟨1, by decide, fk_NoWeight_init X G c ce⟩, trivial⟩ trivial trivial (fun _ _ _ _ _ _ us hl => match us, hl with | [_, _], _ => rfl)
theorem fk_Web_total (X : K.In h) (G : h.Ns mainGlobals mg) (c : He.SaysD fa fn K) (ce : exB K = true) : MeC P w K mg base "total" (He.ga K "Web") 1 (sp_Web_total K) [] :=
  def_me (N := ["self", "weight"]) (ps := ["self"]) (G := [("sum", .bl)]) (M := []) (Hs := []) (t := t_Web_total K) (c.def_ 9 (d := d_Web_total) (by rfl)) (He.cls_ok (c.fact 0 (by rfl))) (He.meth_ok (c.fact 16 (by rfl))) (by decide +kernel) 60 (fun vs H Q E h => match vs, h with | [_], _ => rfl) (fun _ => by kernel_rfl) (fun vs H Q E h => match vs, h with | [a0], h => pure_Web_total h) ⟨He.free_ok X G (c.fact 15 (by rfl)), trivial⟩ trivial trivial (fun _ _ _ _ _ _ us hl => match us, hl with | [_], _ => rfl)
theorem fk_Web_put (X : K.In h) (G : h.Ns mainGlobals mg) (c : He.SaysD fa fn K) (ce : exB K = true) : MeC P w K mg base "put" (He.ga K "Web") 4 (sp_Web_put K) [] :=
  def_me (N := ["self", "name", "weight"]) (ps := ["self", "name", "weight"]) (G := [("is_name", .fn (sp_is_name K) []), ("NoName", .exc (He.ga K "NoName") (sp_NoName_init K) []), ("Taken", .exc (He.ga K "Taken") (sp_Taken_init K) []), ("len", .bl), ("MOST_PLACES", .con (.int 60)), ("TooMany", .exc (He.ga K "TooMany") (sp_TooMany_init K) []), ("MOST", .con (.int 1000000000)), ("Beyond", .exc (He.ga K "Beyond") (sp_Beyond_init K) [])]) (M := [("need_weight", He.ga K "Web", sp_Web_need_weight K, []), ("total", He.ga K "Web", sp_Web_total K, [])]) (Hs := []) (t := t_Web_put K) (c.def_ 10 (d := d_Web_put) (by rfl)) (He.cls_ok (c.fact 0 (by rfl))) (He.meth_ok (c.fact 22 (by rfl))) (by decide +kernel) 60 (fun vs H Q E h => match vs, h with | [_, _, _], _ => rfl) (fun _ => by kernel_rfl) (fun vs H Q E h => match vs, h with | [a0, a1, a2], h => pure_Web_put h) ⟨⟨1, by decide, fk_is_name X G c ce⟩, ⟨1, by decide, fk_NoName_init X G c ce⟩, ⟨1, by decide, fk_Taken_init X G c ce⟩, He.free_ok X G (c.fact 2 (by rfl)), (let ⟨t, e⟩ := He.int_ok X G (c.fact 19 (by rfl)); ⟨_, e, ⟨t, rfl⟩⟩), ⟨1, by decide, fk_TooMany_init X G c ce⟩, (let ⟨t, e⟩ := He.int_ok X G (c.fact 12 (by rfl)); ⟨_, e, ⟨t, rfl⟩⟩), ⟨1, by decide, fk_Beyond_init X G c ce⟩, trivial⟩ ⟨⟨3, by decide, fk_Web_need_weight X G c ce⟩, ⟨1, by decide, fk_Web_total X G c ce⟩, trivial⟩ trivial (fun _ _ _ _ _ _ us hl => match us, hl with | [_, _, _], _ => rfl)
theorem fk_NoPlace_init (X : K.In h) (G : h.Ns mainGlobals mg) (c : He.SaysD fa fn K) (ce : exB K = true) : ExC P w K mg base "NoPlace" (He.ga K "NoPlace") 1 (sp_NoPlace_init K) [] :=
  def_ex (N := ["self", "found"]) (ps := ["self", "found"]) (G := [("CutError", .bex (He.ga K "CutError"))]) (M := []) (Hs := []) (t := t_NoPlace_init K) (c.def_ 11 (d := d_NoPlace_init) (by rfl)) (He.glo_ok X G (c.fact 23 (by rfl))) (oexB_ok (ex_at ce 13 (by rfl))) (exInitB_ok (ex_at ce 12 (by rfl))).1 (exInitB_ok (ex_at ce 12 (by rfl))).2 (by decide +kernel) 60 (fun vs H Q E h => match vs, h with | [_, _], _ => rfl) (fun _ => by kernel_rfl) (fun vs H Q E h => match vs, h with | [a0, a1], h => pure_NoPlace_init h) ⟨⟨He.glo_ok X G (c.fact 8 (by rfl)), bexB_ok (ex_at ce 1 (by rfl))⟩, trivial⟩ trivial trivial (fun _ _ _ _ _ _ us hl => match us, hl with | [_, _], _ => rfl)
theorem fk_Web_need_place (X : K.In h) (G : h.Ns mainGlobals mg) (c : He.SaysD fa fn K) (ce : exB K = true) : MeC P w K mg base "need_place" (He.ga K "Web") 3 (sp_Web_need_place K) [] :=
  def_me (N := ["self", "name"]) (ps := ["self", "name"]) (G := [("str", .bl), ("isinstance", .bl), ("NoPlace", .exc (He.ga K "NoPlace") (sp_NoPlace_init K) [])]) (M := []) (Hs := []) (t := t_Web_need_place K) (c.def_ 12 (d := d_Web_need_place) (by rfl)) (He.cls_ok (c.fact 0 (by rfl))) (He.meth_ok (c.fact 24 (by rfl))) (by decide +kernel) 60 (fun vs H Q E h => match vs, h with | [_, _], _ => rfl) (fun _ => by kernel_rfl) (fun vs H Q E h => match vs, h with | [a0, a1], h => pure_Web_need_place h) ⟨He.free_ok X G (c.fact 4 (by rfl)), He.free_ok X G (c.fact 5 (by rfl)), ⟨1, by decide, fk_NoPlace_init X G c ce⟩, trivial⟩ trivial trivial (fun _ _ _ _ _ _ us hl => match us, hl with | [_, _], _ => rfl)
theorem fk_Web_weigh (X : K.In h) (G : h.Ns mainGlobals mg) (c : He.SaysD fa fn K) (ce : exB K = true) : MeC P w K mg base "weigh" (He.ga K "Web") 4 (sp_Web_weigh K) [] :=
  def_me (N := ["self", "name", "weight", "behind"]) (ps := ["self", "name", "weight"]) (G := [("MOST", .con (.int 1000000000)), ("Beyond", .exc (He.ga K "Beyond") (sp_Beyond_init K) [])]) (M := [("need_place", He.ga K "Web", sp_Web_need_place K, []), ("need_weight", He.ga K "Web", sp_Web_need_weight K, []), ("total", He.ga K "Web", sp_Web_total K, [])]) (Hs := []) (t := t_Web_weigh K) (c.def_ 13 (d := d_Web_weigh) (by rfl)) (He.cls_ok (c.fact 0 (by rfl))) (He.meth_ok (c.fact 25 (by rfl))) (by decide +kernel) 60 (fun vs H Q E h => match vs, h with | [_, _, _], _ => rfl) (fun _ => by kernel_rfl) (fun vs H Q E h => match vs, h with | [a0, a1, a2], h => pure_Web_weigh h) ⟨(let ⟨t, e⟩ := He.int_ok X G (c.fact 12 (by rfl)); ⟨_, e, ⟨t, rfl⟩⟩), ⟨1, by decide, fk_Beyond_init X G c ce⟩, trivial⟩ ⟨⟨3, by decide, fk_Web_need_place X G c ce⟩, ⟨3, by decide, fk_Web_need_weight X G c ce⟩, ⟨1, by decide, fk_Web_total X G c ce⟩, trivial⟩ trivial (fun _ _ _ _ _ _ us hl => match us, hl with | [_, _, _], _ => rfl)
theorem fk_Web_drop (X : K.In h) (G : h.Ns mainGlobals mg) (c : He.SaysD fa fn K) (ce : exB K = true) : MeC P w K mg base "drop" (He.ga K "Web") 4 (sp_Web_drop K) [] :=
  def_me (N := ["self", "name", "one", "other"]) (ps := ["self", "name"]) (G := [("list", .bl)]) (M := [("need_place", He.ga K "Web", sp_Web_need_place K, [])]) (Hs := []) (t := t_Web_drop K) (c.def_ 14 (d := d_Web_drop) (by rfl)) (He.cls_ok (c.fact 0 (by rfl))) (He.meth_ok (c.fact 27 (by rfl))) (by decide +kernel) 60 (fun vs H Q E h => match vs, h with | [_, _], _ => rfl) (fun _ => by kernel_rfl) (fun vs H Q E h => match vs, h with | [a0, a1], h => pure_Web_drop h) ⟨He.free_ok X G (c.fact 26 (by rfl)), trivial⟩ ⟨⟨3, by decide, fk_Web_need_place X G c ce⟩, trivial⟩ trivial (fun _ _ _ _ _ _ us hl => match us, hl with | [_, _], _ => rfl)
theorem fk_NoStrength_init (X : K.In h) (G : h.Ns mainGlobals mg) (c : He.SaysD fa fn K) (ce : exB K = true) : ExC P w K mg base "NoStrength" (He.ga K "NoStrength") 1 (sp_NoStrength_init K) [] :=
  def_ex (N := ["self", "found"]) (ps := ["self", "found"]) (G := [("CutError", .bex (He.ga K "CutError"))]) (M := []) (Hs := []) (t := t_NoStrength_init K) (c.def_ 15 (d := d_NoStrength_init) (by rfl)) (He.glo_ok X G (c.fact 32 (by rfl))) (oexB_ok (ex_at ce 15 (by rfl))) (exInitB_ok (ex_at ce 14 (by rfl))).1 (exInitB_ok (ex_at ce 14 (by rfl))).2 (by decide +kernel) 60 (fun vs H Q E h => match vs, h with | [_, _], _ => rfl) (fun _ => by kernel_rfl) (fun vs H Q E h => match vs, h with | [a0, a1], h => pure_NoStrength_init h) ⟨⟨He.glo_ok X G (c.fact 8 (by rfl)), bexB_ok (ex_at ce 1 (by rfl))⟩, trivial⟩ trivial trivial (fun _ _ _ _ _ _ us hl => match us, hl with | [_, _], _ => rfl)
theorem fk_Tied_init (X : K.In h) (G : h.Ns mainGlobals mg) (c : He.SaysD fa fn K) (ce : exB K = true) : ExC P w K mg base "Tied" (He.ga K "Tied") 1 (sp_Tied_init K) [] :=
  def_ex (N := ["self", "one", "other"]) (ps := ["self", "one", "other"]) (G := [("CutError", .bex (He.ga K "CutError"))]) (M := []) (Hs := []) (t := t_Tied_init K) (c.def_ 16 (d := d_Tied_init) (by rfl)) (He.glo_ok X G (c.fact 33 (by rfl))) (oexB_ok (ex_at ce 17 (by rfl))) (exInitB_ok (ex_at ce 16 (by rfl))).1 (exInitB_ok (ex_at ce 16 (by rfl))).2 (by decide +kernel) 60 (fun vs H Q E h => match vs, h with | [_, _, _], _ => rfl) (fun _ => by kernel_rfl) (fun vs H Q E h => match vs, h with | [a0, a1, a2], h => pure_Tied_init h) ⟨⟨He.glo_ok X G (c.fact 8 (by rfl)), bexB_ok (ex_at ce 1 (by rfl))⟩, trivial⟩ trivial trivial (fun _ _ _ _ _ _ us hl => match us, hl with | [_, _, _], _ => rfl)
theorem fk_Same_init (X : K.In h) (G : h.Ns mainGlobals mg) (c : He.SaysD fa fn K) (ce : exB K = true) : ExC P w K mg base "Same" (He.ga K "Same") 1 (sp_Same_init K) [] :=
  def_ex (N := ["self", "found"]) (ps := ["self", "found"]) (G := [("CutError", .bex (He.ga K "CutError"))]) (M := []) (Hs := []) (t := t_Same_init K) (c.def_ 17 (d := d_Same_init) (by rfl)) (He.glo_ok X G (c.fact 28 (by rfl))) (oexB_ok (ex_at ce 19 (by rfl))) (exInitB_ok (ex_at ce 18 (by rfl))).1 (exInitB_ok (ex_at ce 18 (by rfl))).2 (by decide +kernel) 60 (fun vs H Q E h => match vs, h with | [_, _], _ => rfl) (fun _ => by kernel_rfl) (fun vs H Q E h => match vs, h with | [a0, a1], h => pure_Same_init h) ⟨⟨He.glo_ok X G (c.fact 8 (by rfl)), bexB_ok (ex_at ce 1 (by rfl))⟩, trivial⟩ trivial trivial (fun _ _ _ _ _ _ us hl => match us, hl with | [_, _], _ => rfl)
theorem fk_Web_need_two (X : K.In h) (G : h.Ns mainGlobals mg) (c : He.SaysD fa fn K) (ce : exB K = true) : MeC P w K mg base "need_two" (He.ga K "Web") 4 (sp_Web_need_two K) [] :=
  def_me (N := ["self", "one", "other"]) (ps := ["self", "one", "other"]) (G := [("Same", .exc (He.ga K "Same") (sp_Same_init K) [])]) (M := [("need_place", He.ga K "Web", sp_Web_need_place K, [])]) (Hs := []) (t := t_Web_need_two K) (c.def_ 18 (d := d_Web_need_two) (by rfl)) (He.cls_ok (c.fact 0 (by rfl))) (He.meth_ok (c.fact 29 (by rfl))) (by decide +kernel) 60 (fun vs H Q E h => match vs, h with | [_, _, _], _ => rfl) (fun _ => by kernel_rfl) (fun vs H Q E h => match vs, h with | [a0, a1, a2], h => pure_Web_need_two h) ⟨⟨1, by decide, fk_Same_init X G c ce⟩, trivial⟩ ⟨⟨3, by decide, fk_Web_need_place X G c ce⟩, trivial⟩ trivial (fun _ _ _ _ _ _ us hl => match us, hl with | [_, _, _], _ => rfl)
theorem fk_Web_knot (X : K.In h) (G : h.Ns mainGlobals mg) (c : He.SaysD fa fn K) (ce : exB K = true) : MeC P w K mg base "knot" (He.ga K "Web") 1 (sp_Web_knot K) [] :=
  def_me (N := ["self", "one", "other"]) (ps := ["self", "one", "other"]) (G := []) (M := []) (Hs := []) (t := t_Web_knot K) (c.def_ 19 (d := d_Web_knot) (by rfl)) (He.cls_ok (c.fact 0 (by rfl))) (He.meth_ok (c.fact 30 (by rfl))) (by decide +kernel) 60 (fun vs H Q E h => match vs, h with | [_, _, _], _ => rfl) (fun _ => by kernel_rfl) (fun vs H Q E h => match vs, h with | [a0, a1, a2], h => pure_Web_knot h) trivial trivial trivial (fun _ _ _ _ _ _ us hl => match us, hl with | [_, _, _], _ => rfl)
theorem fk_Web_force (X : K.In h) (G : h.Ns mainGlobals mg) (c : He.SaysD fa fn K) (ce : exB K = true) : MeC P w K mg base "force" (He.ga K "Web") 1 (sp_Web_force K) [] :=
  def_me (N := ["self", "strength"]) (ps := ["self"]) (G := [("sum", .bl)]) (M := []) (Hs := []) (t := t_Web_force K) (c.def_ 20 (d := d_Web_force) (by rfl)) (He.cls_ok (c.fact 0 (by rfl))) (He.meth_ok (c.fact 31 (by rfl))) (by decide +kernel) 60 (fun vs H Q E h => match vs, h with | [_], _ => rfl) (fun _ => by kernel_rfl) (fun vs H Q E h => match vs, h with | [a0], h => pure_Web_force h) ⟨He.free_ok X G (c.fact 15 (by rfl)), trivial⟩ trivial trivial (fun _ _ _ _ _ _ us hl => match us, hl with | [_], _ => rfl)
theorem fk_Web_tie (X : K.In h) (G : h.Ns mainGlobals mg) (c : He.SaysD fa fn K) (ce : exB K = true) : MeC P w K mg base "tie" (He.ga K "Web") 5 (sp_Web_tie K) [] :=
  def_me (N := ["self", "one", "other", "strength"]) (ps := ["self", "one", "other", "strength"]) (G := [("MOST", .con (.int 1000000000)), ("is_whole", .fn (sp_is_whole K) []), ("NoStrength", .exc (He.ga K "NoStrength") (sp_NoStrength_init K) []), ("Tied", .exc (He.ga K "Tied") (sp_Tied_init K) []), ("len", .bl), ("MOST_TIES", .con (.int 200)), ("TooMany", .exc (He.ga K "TooMany") (sp_TooMany_init K) []), ("Beyond", .exc (He.ga K "Beyond") (sp_Beyond_init K) [])]) (M := [("need_two", He.ga K "Web", sp_Web_need_two K, []), ("knot", He.ga K "Web", sp_Web_knot K, []), ("force", He.ga K "Web", sp_Web_force K, [])]) (Hs := []) (t := t_Web_tie K) (c.def_ 21 (d := d_Web_tie) (by rfl)) (He.cls_ok (c.fact 0 (by rfl))) (He.meth_ok (c.fact 35 (by rfl))) (by decide +kernel) 60 (fun vs H Q E h => match vs, h with | [_, _, _, _], _ => rfl) (fun _ => by kernel_rfl) (fun vs H Q E h => match vs, h with | [a0, a1, a2, a3], h => pure_Web_tie h) ⟨(let ⟨t, e⟩ := He.int_ok X G (c.fact 12 (by rfl)); ⟨_, e, ⟨t, rfl⟩⟩), ⟨1, by decide, fk_is_whole X G c ce⟩, ⟨1, by decide, fk_NoStrength_init X G c ce⟩, ⟨1, by decide, fk_Tied_init X G c ce⟩, He.free_ok X G (c.fact 2 (by rfl)), (let ⟨t, e⟩ := He.int_ok X G (c.fact 34 (by rfl)); ⟨_, e, ⟨t, rfl⟩⟩), ⟨1, by decide, fk_TooMany_init X G c ce⟩, ⟨1, by decide, fk_Beyond_init X G c ce⟩, trivial⟩ ⟨⟨4, by decide, fk_Web_need_two X G c ce⟩, ⟨1, by decide, fk_Web_knot X G c ce⟩, ⟨1, by decide, fk_Web_force X G c ce⟩, trivial⟩ trivial (fun _ _ _ _ _ _ us hl => match us, hl with | [_, _, _, _], _ => rfl)
theorem fk_NoTie_init (X : K.In h) (G : h.Ns mainGlobals mg) (c : He.SaysD fa fn K) (ce : exB K = true) : ExC P w K mg base "NoTie" (He.ga K "NoTie") 1 (sp_NoTie_init K) [] :=
  def_ex (N := ["self", "one", "other"]) (ps := ["self", "one", "other"]) (G := [("CutError", .bex (He.ga K "CutError"))]) (M := []) (Hs := []) (t := t_NoTie_init K) (c.def_ 22 (d := d_NoTie_init) (by rfl)) (He.glo_ok X G (c.fact 36 (by rfl))) (oexB_ok (ex_at ce 21 (by rfl))) (exInitB_ok (ex_at ce 20 (by rfl))).1 (exInitB_ok (ex_at ce 20 (by rfl))).2 (by decide +kernel) 60 (fun vs H Q E h => match vs, h with | [_, _, _], _ => rfl) (fun _ => by kernel_rfl) (fun vs H Q E h => match vs, h with | [a0, a1, a2], h => pure_NoTie_init h) ⟨⟨He.glo_ok X G (c.fact 8 (by rfl)), bexB_ok (ex_at ce 1 (by rfl))⟩, trivial⟩ trivial trivial (fun _ _ _ _ _ _ us hl => match us, hl with | [_, _, _], _ => rfl)
theorem fk_Web_need_tie (X : K.In h) (G : h.Ns mainGlobals mg) (c : He.SaysD fa fn K) (ce : exB K = true) : MeC P w K mg base "need_tie" (He.ga K "Web") 5 (sp_Web_need_tie K) [] :=
  def_me (N := ["self", "one", "other", "found"]) (ps := ["self", "one", "other"]) (G := [("NoTie", .exc (He.ga K "NoTie") (sp_NoTie_init K) [])]) (M := [("need_two", He.ga K "Web", sp_Web_need_two K, []), ("knot", He.ga K "Web", sp_Web_knot K, [])]) (Hs := []) (t := t_Web_need_tie K) (c.def_ 23 (d := d_Web_need_tie) (by rfl)) (He.cls_ok (c.fact 0 (by rfl))) (He.meth_ok (c.fact 37 (by rfl))) (by decide +kernel) 60 (fun vs H Q E h => match vs, h with | [_, _, _], _ => rfl) (fun _ => by kernel_rfl) (fun vs H Q E h => match vs, h with | [a0, a1, a2], h => pure_Web_need_tie h) ⟨⟨1, by decide, fk_NoTie_init X G c ce⟩, trivial⟩ ⟨⟨4, by decide, fk_Web_need_two X G c ce⟩, ⟨1, by decide, fk_Web_knot X G c ce⟩, trivial⟩ trivial (fun _ _ _ _ _ _ us hl => match us, hl with | [_, _, _], _ => rfl)
theorem fk_Web_more (X : K.In h) (G : h.Ns mainGlobals mg) (c : He.SaysD fa fn K) (ce : exB K = true) : MeC P w K mg base "more" (He.ga K "Web") 6 (sp_Web_more K) [] :=
  def_me (N := ["self", "one", "other", "by", "found"]) (ps := ["self", "one", "other", "by"]) (G := [("MOST", .con (.int 1000000000)), ("is_whole", .fn (sp_is_whole K) []), ("NoStrength", .exc (He.ga K "NoStrength") (sp_NoStrength_init K) []), ("Beyond", .exc (He.ga K "Beyond") (sp_Beyond_init K) [])]) (M := [("need_tie", He.ga K "Web", sp_Web_need_tie K, []), ("force", He.ga K "Web", sp_Web_force K, [])]) (Hs := []) (t := t_Web_more K) (c.def_ 24 (d := d_Web_more) (by rfl)) (He.cls_ok (c.fact 0 (by rfl))) (He.meth_ok (c.fact 38 (by rfl))) (by decide +kernel) 60 (fun vs H Q E h => match vs, h with | [_, _, _, _], _ => rfl) (fun _ => by kernel_rfl) (fun vs H Q E h => match vs, h with | [a0, a1, a2, a3], h => pure_Web_more h) ⟨(let ⟨t, e⟩ := He.int_ok X G (c.fact 12 (by rfl)); ⟨_, e, ⟨t, rfl⟩⟩), ⟨1, by decide, fk_is_whole X G c ce⟩, ⟨1, by decide, fk_NoStrength_init X G c ce⟩, ⟨1, by decide, fk_Beyond_init X G c ce⟩, trivial⟩ ⟨⟨5, by decide, fk_Web_need_tie X G c ce⟩, ⟨1, by decide, fk_Web_force X G c ce⟩, trivial⟩ trivial (fun _ _ _ _ _ _ us hl => match us, hl with | [_, _, _, _], _ => rfl)
theorem fk_Web_untie (X : K.In h) (G : h.Ns mainGlobals mg) (c : He.SaysD fa fn K) (ce : exB K = true) : MeC P w K mg base "untie" (He.ga K "Web") 6 (sp_Web_untie K) [] :=
  def_me (N := ["self", "one", "other"]) (ps := ["self", "one", "other"]) (G := []) (M := [("need_tie", He.ga K "Web", sp_Web_need_tie K, [])]) (Hs := []) (t := t_Web_untie K) (c.def_ 25 (d := d_Web_untie) (by rfl)) (He.cls_ok (c.fact 0 (by rfl))) (He.meth_ok (c.fact 39 (by rfl))) (by decide +kernel) 60 (fun vs H Q E h => match vs, h with | [_, _, _], _ => rfl) (fun _ => by kernel_rfl) (fun vs H Q E h => match vs, h with | [a0, a1, a2], h => pure_Web_untie h) trivial ⟨⟨5, by decide, fk_Web_need_tie X G c ce⟩, trivial⟩ trivial (fun _ _ _ _ _ _ us hl => match us, hl with | [_, _, _], _ => rfl)
theorem fk_l_done (X : K.In h) (G : h.Ns mainGlobals mg) (c : He.SaysD fa fn K) (ce : exB K = true) : FnC P w K mg base "_law_done" 7 (sp_l_done K) [] :=
  def_fn (N := ["_law_web", "_law_deed", "_law_e", "_law_told"]) (ps := ["_law_web", "_law_deed"]) (G := [("CutError", .con (.ref (He.ga K "CutError")))]) (M := [("put", He.ga K "Web", sp_Web_put K, []), ("weigh", He.ga K "Web", sp_Web_weigh K, []), ("drop", He.ga K "Web", sp_Web_drop K, []), ("tie", He.ga K "Web", sp_Web_tie K, []), ("more", He.ga K "Web", sp_Web_more K, []), ("untie", He.ga K "Web", sp_Web_untie K, [])]) (Hs := [("_law_named", spE_l_named K)]) (t := t_l_done K) (c.def_ 26 (d := d_l_done) (by rfl)) (He.glo_ok X G (c.fact 40 (by rfl))) (by decide +kernel) 60 (fun vs H Q E h => match vs, h with | [_, _], _ => rfl) (fun _ => by kernel_rfl) (fun vs H Q E h => match vs, h with | [a0, a1], h => pure_l_done h) ⟨⟨_, He.glo_ok X G (c.fact 8 (by rfl)), rfl⟩, trivial⟩ ⟨⟨4, by decide, fk_Web_put X G c ce⟩, ⟨4, by decide, fk_Web_weigh X G c ce⟩, ⟨4, by decide, fk_Web_drop X G c ce⟩, ⟨5, by decide, fk_Web_tie X G c ce⟩, ⟨6, by decide, fk_Web_more X G c ce⟩, ⟨6, by decide, fk_Web_untie X G c ce⟩, trivial⟩ ⟨⟨1, by decide, fk_hot_l_named X G c ce⟩, trivial⟩ (fun _ _ _ _ _ _ us hl => match us, hl with | [_, _], _ => rfl)
theorem fk_l_tied (X : K.In h) (G : h.Ns mainGlobals mg) (c : He.SaysD fa fn K) (ce : exB K = true) : FnC P w K mg base "_law_tied" 1 (sp_l_tied K) [] :=
  def_fn (N := ["_law_state", "_law_one", "_law_other", "_law_pair"]) (ps := ["_law_state", "_law_one", "_law_other"]) (G := []) (M := []) (Hs := []) (t := t_l_tied K) (c.def_ 27 (d := d_l_tied) (by rfl)) (He.glo_ok X G (c.fact 41 (by rfl))) (by decide +kernel) 60 (fun vs H Q E h => match vs, h with | [_, _, _], _ => rfl) (fun _ => by kernel_rfl) (fun vs H Q E h => match vs, h with | [a0, a1, a2], h => pure_l_tied h) trivial trivial trivial (fun _ _ _ _ _ _ us hl => match us, hl with | [_, _, _], _ => rfl)
theorem fk_l_apply (X : K.In h) (G : h.Ns mainGlobals mg) (c : He.SaysD fa fn K) (ce : exB K = true) : FnC P w K mg base "_law_apply" 2 (sp_l_apply K) [] :=
  def_fn (N := ["_law_state", "_law_deed", "_law_pair"]) (ps := ["_law_state", "_law_deed"]) (G := [("list", .bl), ("_law_tied", .fn (sp_l_tied K) [])]) (M := []) (Hs := []) (t := t_l_apply K) (c.def_ 28 (d := d_l_apply) (by rfl)) (He.glo_ok X G (c.fact 42 (by rfl))) (by decide +kernel) 60 (fun vs H Q E h => match vs, h with | [_, _], _ => rfl) (fun _ => by kernel_rfl) (fun vs H Q E h => match vs, h with | [a0, a1], h => pure_l_apply h) ⟨He.free_ok X G (c.fact 26 (by rfl)), ⟨1, by decide, fk_l_tied X G c ce⟩, trivial⟩ trivial trivial (fun _ _ _ _ _ _ us hl => match us, hl with | [_, _], _ => rfl)
theorem fk_l_row (X : K.In h) (G : h.Ns mainGlobals mg) (c : He.SaysD fa fn K) (ce : exB K = true) : FnC P w K mg base "_law_row" 1 (sp_l_row K) [] :=
  def_fn (N := ["_law_cell", "_law_sizes", "_law_found", "_law_left", "_law_number_here", "_law_k", "_law_other"]) (ps := ["_law_cell", "_law_sizes"]) (G := [("range", .bl), ("len", .bl)]) (M := []) (Hs := []) (t := t_l_row K) (c.def_ 29 (d := d_l_row) (by rfl)) (He.glo_ok X G (c.fact 43 (by rfl))) (by decide +kernel) 60 (fun vs H Q E h => match vs, h with | [_, _], _ => rfl) (fun _ => by kernel_rfl) (fun vs H Q E h => match vs, h with | [a0, a1], h => pure_l_row h) ⟨He.free_ok X G (c.fact 44 (by rfl)), He.free_ok X G (c.fact 2 (by rfl)), trivial⟩ trivial trivial (fun _ _ _ _ _ _ us hl => match us, hl with | [_, _], _ => rfl)
theorem fk_l_odd (X : K.In h) (G : h.Ns mainGlobals mg) (c : He.SaysD fa fn K) (ce : exB K = true) : FnC P w K mg base "_law_odd" 1 (sp_l_odd K) [] :=
  def_fn (N := ["_law_number_here", "_law_odd_here"]) (ps := ["_law_number_here"]) (G := []) (M := []) (Hs := []) (t := t_l_odd K) (c.def_ 30 (d := d_l_odd) (by rfl)) (He.glo_ok X G (c.fact 45 (by rfl))) (by decide +kernel) 60 (fun vs H Q E h => match vs, h with | [_], _ => rfl) (fun _ => by kernel_rfl) (fun vs H Q E h => match vs, h with | [a0], h => pure_l_odd h) trivial trivial trivial (fun _ _ _ _ _ _ us hl => match us, hl with | [_], _ => rfl)
theorem fk_l_name (X : K.In h) (G : h.Ns mainGlobals mg) (c : He.SaysD fa fn K) (ce : exB K = true) : FnC P w K mg base "_law_name" 1 (sp_l_name K) [] :=
  def_fn (N := ["_law_number_here", "_law_pool"]) (ps := ["_law_number_here"]) (G := []) (M := []) (Hs := []) (t := t_l_name K) (c.def_ 31 (d := d_l_name) (by rfl)) (He.glo_ok X G (c.fact 46 (by rfl))) (by decide +kernel) 60 (fun vs H Q E h => match vs, h with | [_], _ => rfl) (fun _ => by kernel_rfl) (fun vs H Q E h => match vs, h with | [a0], h => pure_l_name h) trivial trivial trivial (fun _ _ _ _ _ _ us hl => match us, hl with | [_], _ => rfl)
theorem fk_l_any_name (X : K.In h) (G : h.Ns mainGlobals mg) (c : He.SaysD fa fn K) (ce : exB K = true) : FnC P w K mg base "_law_any_name" 2 (sp_l_any_name K) [] :=
  def_fn (N := ["_law_state", "_law_xs", "_law_names"]) (ps := ["_law_state", "_law_xs"]) (G := [("list", .bl), ("_law_odd", .fn (sp_l_odd K) []), ("_law_name", .fn (sp_l_name K) []), ("len", .bl)]) (M := []) (Hs := []) (t := t_l_any_name K) (c.def_ 32 (d := d_l_any_name) (by rfl)) (He.glo_ok X G (c.fact 47 (by rfl))) (by decide +kernel) 60 (fun vs H Q E h => match vs, h with | [_, _], _ => rfl) (fun _ => by kernel_rfl) (fun vs H Q E h => match vs, h with | [a0, a1], h => pure_l_any_name h) ⟨He.free_ok X G (c.fact 26 (by rfl)), ⟨1, by decide, fk_l_odd X G c ce⟩, ⟨1, by decide, fk_l_name X G c ce⟩, He.free_ok X G (c.fact 2 (by rfl)), trivial⟩ trivial trivial (fun _ _ _ _ _ _ us hl => match us, hl with | [_, _], _ => rfl)
theorem fk_l_number (X : K.In h) (G : h.Ns mainGlobals mg) (c : He.SaysD fa fn K) (ce : exB K = true) : FnC P w K mg base "_law_number" 1 (sp_l_number K) [] :=
  def_fn (N := ["_law_xs", "_law_some"]) (ps := ["_law_xs"]) (G := []) (M := []) (Hs := []) (t := t_l_number K) (c.def_ 33 (d := d_l_number) (by rfl)) (He.glo_ok X G (c.fact 48 (by rfl))) (by decide +kernel) 60 (fun vs H Q E h => match vs, h with | [_], _ => rfl) (fun _ => by kernel_rfl) (fun vs H Q E h => match vs, h with | [a0], h => pure_l_number h) trivial trivial trivial (fun _ _ _ _ _ _ us hl => match us, hl with | [_], _ => rfl)
theorem fk_l_drawn (X : K.In h) (G : h.Ns mainGlobals mg) (c : He.SaysD fa fn K) (ce : exB K = true) : FnC P w K mg base "_law_drawn" 3 (sp_l_drawn K) [] :=
  def_fn (N := ["_law_state", "_law_xs", "_law_one", "_law_other", "_law_number_here", "_law_ties_here"]) (ps := ["_law_state", "_law_xs"]) (G := [("_law_any_name", .fn (sp_l_any_name K) []), ("_law_number", .fn (sp_l_number K) []), ("list", .bl), ("len", .bl)]) (M := []) (Hs := []) (t := t_l_drawn K) (c.def_ 34 (d := d_l_drawn) (by rfl)) (He.glo_ok X G (c.fact 49 (by rfl))) (by decide +kernel) 60 (fun vs H Q E h => match vs, h with | [_, _], _ => rfl) (fun _ => by kernel_rfl) (fun vs H Q E h => match vs, h with | [a0, a1], h => pure_l_drawn h) ⟨⟨2, by decide, fk_l_any_name X G c ce⟩, ⟨1, by decide, fk_l_number X G c ce⟩, He.free_ok X G (c.fact 26 (by rfl)), He.free_ok X G (c.fact 2 (by rfl)), trivial⟩ trivial trivial (fun _ _ _ _ _ _ us hl => match us, hl with | [_, _], _ => rfl)
theorem fk_l_is_name (X : K.In h) (G : h.Ns mainGlobals mg) (c : He.SaysD fa fn K) (ce : exB K = true) : FnC P w K mg base "_law_is_name" 1 (sp_l_is_name K) [] :=
  def_fn (N := ["_law_thing", "_law_sign"]) (ps := ["_law_thing"]) (G := [("len", .bl), ("str", .bl), ("isinstance", .bl)]) (M := []) (Hs := []) (t := t_l_is_name K) (c.def_ 35 (d := d_l_is_name) (by rfl)) (He.glo_ok X G (c.fact 50 (by rfl))) (by decide +kernel) 60 (fun vs H Q E h => match vs, h with | [_], _ => rfl) (fun _ => by kernel_rfl) (fun vs H Q E h => match vs, h with | [a0], h => pure_l_is_name h) ⟨He.free_ok X G (c.fact 2 (by rfl)), He.free_ok X G (c.fact 4 (by rfl)), He.free_ok X G (c.fact 5 (by rfl)), trivial⟩ trivial trivial (fun _ _ _ _ _ _ us hl => match us, hl with | [_], _ => rfl)
theorem fk_l_is_whole (X : K.In h) (G : h.Ns mainGlobals mg) (c : He.SaysD fa fn K) (ce : exB K = true) : FnC P w K mg base "_law_is_whole" 1 (sp_l_is_whole K) [] :=
  def_fn (N := ["_law_thing", "_law_low", "_law_high"]) (ps := ["_law_thing", "_law_low", "_law_high"]) (G := [("bool", .bl), ("isinstance", .bl), ("int", .bl)]) (M := []) (Hs := []) (t := t_l_is_whole K) (c.def_ 36 (d := d_l_is_whole) (by rfl)) (He.glo_ok X G (c.fact 51 (by rfl))) (by decide +kernel) 60 (fun vs H Q E h => match vs, h with | [_, _, _], _ => rfl) (fun _ => by kernel_rfl) (fun vs H Q E h => match vs, h with | [a0, a1, a2], h => pure_l_is_whole h) ⟨He.free_ok X G (c.fact 10 (by rfl)), He.free_ok X G (c.fact 5 (by rfl)), He.free_ok X G (c.fact 11 (by rfl)), trivial⟩ trivial trivial (fun _ _ _ _ _ _ us hl => match us, hl with | [_, _, _], _ => rfl)
theorem fk_l_put_fault (X : K.In h) (G : h.Ns mainGlobals mg) (c : He.SaysD fa fn K) (ce : exB K = true) : FnC P w K mg base "_law_put_fault" 2 (sp_l_put_fault K) [] :=
  def_fn (N := ["_law_state", "_law_name_here", "_law_weight"]) (ps := ["_law_state", "_law_name_here", "_law_weight"]) (G := [("_law_is_name", .fn (sp_l_is_name K) []), ("_law_is_whole", .fn (sp_l_is_whole K) []), ("len", .bl), ("sum", .bl)]) (M := []) (Hs := []) (t := t_l_put_fault K) (c.def_ 37 (d := d_l_put_fault) (by rfl)) (He.glo_ok X G (c.fact 52 (by rfl))) (by decide +kernel) 60 (fun vs H Q E h => match vs, h with | [_, _, _], _ => rfl) (fun _ => by kernel_rfl) (fun vs H Q E h => match vs, h with | [a0, a1, a2], h => pure_l_put_fault h) ⟨⟨1, by decide, fk_l_is_name X G c ce⟩, ⟨1, by decide, fk_l_is_whole X G c ce⟩, He.free_ok X G (c.fact 2 (by rfl)), He.free_ok X G (c.fact 15 (by rfl)), trivial⟩ trivial trivial (fun _ _ _ _ _ _ us hl => match us, hl with | [_, _, _], _ => rfl)
theorem fk_l_weigh_fault (X : K.In h) (G : h.Ns mainGlobals mg) (c : He.SaysD fa fn K) (ce : exB K = true) : FnC P w K mg base "_law_weigh_fault" 2 (sp_l_weigh_fault K) [] :=
  def_fn (N := ["_law_state", "_law_name_here", "_law_weight", "_law_behind"]) (ps := ["_law_state", "_law_name_here", "_law_weight"]) (G := [("str", .bl), ("isinstance", .bl), ("_law_is_whole", .fn (sp_l_is_whole K) []), ("sum", .bl)]) (M := []) (Hs := []) (t := t_l_weigh_fault K) (c.def_ 38 (d := d_l_weigh_fault) (by rfl)) (He.glo_ok X G (c.fact 53 (by rfl))) (by decide +kernel) 60 (fun vs H Q E h => match vs, h with | [_, _, _], _ => rfl) (fun _ => by kernel_rfl) (fun vs H Q E h => match vs, h with | [a0, a1, a2], h => pure_l_weigh_fault h) ⟨He.free_ok X G (c.fact 4 (by rfl)), He.free_ok X G (c.fact 5 (by rfl)), ⟨1, by decide, fk_l_is_whole X G c ce⟩, He.free_ok X G (c.fact 15 (by rfl)), trivial⟩ trivial trivial (fun _ _ _ _ _ _ us hl => match us, hl with | [_, _, _], _ => rfl)
theorem fk_l_two_fault (X : K.In h) (G : h.Ns mainGlobals mg) (c : He.SaysD fa fn K) (ce : exB K = true) : FnC P w K mg base "_law_two_fault" 1 (sp_l_two_fault K) [] :=
  def_fn (N := ["_law_state", "_law_one", "_law_other", "_law_name_here"]) (ps := ["_law_state", "_law_one", "_law_other"]) (G := [("str", .bl), ("isinstance", .bl)]) (M := []) (Hs := []) (t := t_l_two_fault K) (c.def_ 39 (d := d_l_two_fault) (by rfl)) (He.glo_ok X G (c.fact 54 (by rfl))) (by decide +kernel) 60 (fun vs H Q E h => match vs, h with | [_, _, _], _ => rfl) (fun _ => by kernel_rfl) (fun vs H Q E h => match vs, h with | [a0, a1, a2], h => pure_l_two_fault h) ⟨He.free_ok X G (c.fact 4 (by rfl)), He.free_ok X G (c.fact 5 (by rfl)), trivial⟩ trivial trivial (fun _ _ _ _ _ _ us hl => match us, hl with | [_, _, _], _ => rfl)
theorem fk_l_tie_fault (X : K.In h) (G : h.Ns mainGlobals mg) (c : He.SaysD fa fn K) (ce : exB K = true) : FnC P w K mg base "_law_tie_fault" 2 (sp_l_tie_fault K) [] :=
  def_fn (N := ["_law_state", "_law_one", "_law_other", "_law_strength", "_law_fault_here"]) (ps := ["_law_state", "_law_one", "_law_other", "_law_strength"]) (G := [("_law_two_fault", .fn (sp_l_two_fault K) []), ("_law_is_whole", .fn (sp_l_is_whole K) []), ("_law_tied", .fn (sp_l_tied K) []), ("len", .bl), ("sum", .bl)]) (M := []) (Hs := []) (t := t_l_tie_fault K) (c.def_ 40 (d := d_l_tie_fault) (by rfl)) (He.glo_ok X G (c.fact 55 (by rfl))) (by decide +kernel) 60 (fun vs H Q E h => match vs, h with | [_, _, _, _], _ => rfl) (fun _ => by kernel_rfl) (fun vs H Q E h => match vs, h with | [a0, a1, a2, a3], h => pure_l_tie_fault h) ⟨⟨1, by decide, fk_l_two_fault X G c ce⟩, ⟨1, by decide, fk_l_is_whole X G c ce⟩, ⟨1, by decide, fk_l_tied X G c ce⟩, He.free_ok X G (c.fact 2 (by rfl)), He.free_ok X G (c.fact 15 (by rfl)), trivial⟩ trivial trivial (fun _ _ _ _ _ _ us hl => match us, hl with | [_, _, _, _], _ => rfl)
theorem fk_l_more_fault (X : K.In h) (G : h.Ns mainGlobals mg) (c : He.SaysD fa fn K) (ce : exB K = true) : FnC P w K mg base "_law_more_fault" 2 (sp_l_more_fault K) [] :=
  def_fn (N := ["_law_state", "_law_one", "_law_other", "_law_by", "_law_fault_here", "_law_pair"]) (ps := ["_law_state", "_law_one", "_law_other", "_law_by"]) (G := [("_law_two_fault", .fn (sp_l_two_fault K) []), ("_law_tied", .fn (sp_l_tied K) []), ("_law_is_whole", .fn (sp_l_is_whole K) []), ("sum", .bl)]) (M := []) (Hs := []) (t := t_l_more_fault K) (c.def_ 41 (d := d_l_more_fault) (by rfl)) (He.glo_ok X G (c.fact 56 (by rfl))) (by decide +kernel) 60 (fun vs H Q E h => match vs, h with | [_, _, _, _], _ => rfl) (fun _ => by kernel_rfl) (fun vs H Q E h => match vs, h with | [a0, a1, a2, a3], h => pure_l_more_fault h) ⟨⟨1, by decide, fk_l_two_fault X G c ce⟩, ⟨1, by decide, fk_l_tied X G c ce⟩, ⟨1, by decide, fk_l_is_whole X G c ce⟩, He.free_ok X G (c.fact 15 (by rfl)), trivial⟩ trivial trivial (fun _ _ _ _ _ _ us hl => match us, hl with | [_, _, _, _], _ => rfl)
theorem fk_l_fault (X : K.In h) (G : h.Ns mainGlobals mg) (c : He.SaysD fa fn K) (ce : exB K = true) : FnC P w K mg base "_law_fault" 3 (sp_l_fault K) [] :=
  def_fn (N := ["_law_state", "_law_deed", "_law_fault_here"]) (ps := ["_law_state", "_law_deed"]) (G := [("_law_put_fault", .fn (sp_l_put_fault K) []), ("_law_weigh_fault", .fn (sp_l_weigh_fault K) []), ("str", .bl), ("isinstance", .bl), ("_law_tie_fault", .fn (sp_l_tie_fault K) []), ("_law_more_fault", .fn (sp_l_more_fault K) []), ("_law_two_fault", .fn (sp_l_two_fault K) []), ("_law_tied", .fn (sp_l_tied K) [])]) (M := []) (Hs := []) (t := t_l_fault K) (c.def_ 42 (d := d_l_fault) (by rfl)) (He.glo_ok X G (c.fact 57 (by rfl))) (by decide +kernel) 60 (fun vs H Q E h => match vs, h with | [_, _], _ => rfl) (fun _ => by kernel_rfl) (fun vs H Q E h => match vs, h with | [a0, a1], h => pure_l_fault h) ⟨⟨2, by decide, fk_l_put_fault X G c ce⟩, ⟨2, by decide, fk_l_weigh_fault X G c ce⟩, He.free_ok X G (c.fact 4 (by rfl)), He.free_ok X G (c.fact 5 (by rfl)), ⟨2, by decide, fk_l_tie_fault X G c ce⟩, ⟨2, by decide, fk_l_more_fault X G c ce⟩, ⟨1, by decide, fk_l_two_fault X G c ce⟩, ⟨1, by decide, fk_l_tied X G c ce⟩, trivial⟩ trivial trivial (fun _ _ _ _ _ _ us hl => match us, hl with | [_, _], _ => rfl)
theorem fk_l_alike (X : K.In h) (G : h.Ns mainGlobals mg) (c : He.SaysD fa fn K) (ce : exB K = true) : FnC P w K mg base "_law_alike" 1 (sp_l_alike K) [] :=
  def_fn (N := ["_law_found", "_law_due"]) (ps := ["_law_found", "_law_due"]) (G := [("bool", .bl), ("isinstance", .bl)]) (M := []) (Hs := []) (t := t_l_alike K) (c.def_ 43 (d := d_l_alike) (by rfl)) (He.glo_ok X G (c.fact 58 (by rfl))) (by decide +kernel) 60 (fun vs H Q E h => match vs, h with | [_, _], _ => rfl) (fun _ => by kernel_rfl) (fun vs H Q E h => match vs, h with | [a0, a1], h => pure_l_alike h) ⟨He.free_ok X G (c.fact 10 (by rfl)), He.free_ok X G (c.fact 5 (by rfl)), trivial⟩ trivial trivial (fun _ _ _ _ _ _ us hl => match us, hl with | [_, _], _ => rfl)
theorem fk_l_ties (X : K.In h) (G : h.Ns mainGlobals mg) (c : He.SaysD fa fn K) (ce : exB K = true) : FnC P w K mg base "_law_ties" 1 (sp_l_ties K) [] :=
  def_fn (N := ["_law_state", "_law_names", "_law_found", "_law_pair", "_law_strength"]) (ps := ["_law_state"]) (G := [("list", .bl)]) (M := []) (Hs := []) (t := t_l_ties K) (c.def_ 44 (d := d_l_ties) (by rfl)) (He.glo_ok X G (c.fact 59 (by rfl))) (by decide +kernel) 60 (fun vs H Q E h => match vs, h with | [_], _ => rfl) (fun _ => by kernel_rfl) (fun vs H Q E h => match vs, h with | [a0], h => pure_l_ties h) ⟨He.free_ok X G (c.fact 26 (by rfl)), trivial⟩ trivial trivial (fun _ _ _ _ _ _ us hl => match us, hl with | [_], _ => rfl)
theorem fk_Web_ties (X : K.In h) (G : h.Ns mainGlobals mg) (c : He.SaysD fa fn K) (ce : exB K = true) : MeC P w K mg base "ties" (He.ga K "Web") 1 (sp_Web_ties K) [] :=
  def_me (N := ["self", "ranks", "found", "at", "name", "strength", "one", "other"]) (ps := ["self"]) (G := [("enumerate", .bl)]) (M := []) (Hs := []) (t := t_Web_ties K) (c.def_ 45 (d := d_Web_ties) (by rfl)) (He.cls_ok (c.fact 0 (by rfl))) (He.meth_ok (c.fact 61 (by rfl))) (by decide +kernel) 60 (fun vs H Q E h => match vs, h with | [_], _ => rfl) (fun _ => by kernel_rfl) (fun vs H Q E h => match vs, h with | [a0], h => pure_Web_ties h) ⟨He.free_ok X G (c.fact 60 (by rfl)), trivial⟩ trivial trivial (fun _ _ _ _ _ _ us hl => match us, hl with | [_], _ => rfl)
theorem fk_Web_names (X : K.In h) (G : h.Ns mainGlobals mg) (c : He.SaysD fa fn K) (ce : exB K = true) : MeC P w K mg base "names" (He.ga K "Web") 1 (sp_Web_names K) [] :=
  def_me (N := ["self"]) (ps := ["self"]) (G := [("list", .bl)]) (M := []) (Hs := []) (t := t_Web_names K) (c.def_ 46 (d := d_Web_names) (by rfl)) (He.cls_ok (c.fact 0 (by rfl))) (He.meth_ok (c.fact 62 (by rfl))) (by decide +kernel) 60 (fun vs H Q E h => match vs, h with | [_], _ => rfl) (fun _ => by kernel_rfl) (fun vs H Q E h => match vs, h with | [a0], h => pure_Web_names h) ⟨He.free_ok X G (c.fact 26 (by rfl)), trivial⟩ trivial trivial (fun _ _ _ _ _ _ us hl => match us, hl with | [_], _ => rfl)
theorem fk_Web_strength (X : K.In h) (G : h.Ns mainGlobals mg) (c : He.SaysD fa fn K) (ce : exB K = true) : MeC P w K mg base "strength" (He.ga K "Web") 4 (sp_Web_strength K) [] :=
  def_me (N := ["self", "one", "other", "found"]) (ps := ["self", "one", "other"]) (G := []) (M := [("need_place", He.ga K "Web", sp_Web_need_place K, []), ("knot", He.ga K "Web", sp_Web_knot K, [])]) (Hs := []) (t := t_Web_strength K) (c.def_ 47 (d := d_Web_strength) (by rfl)) (He.cls_ok (c.fact 0 (by rfl))) (He.meth_ok (c.fact 63 (by rfl))) (by decide +kernel) 60 (fun vs H Q E h => match vs, h with | [_, _, _], _ => rfl) (fun _ => by kernel_rfl) (fun vs H Q E h => match vs, h with | [a0, a1, a2], h => pure_Web_strength h) trivial ⟨⟨3, by decide, fk_Web_need_place X G c ce⟩, ⟨1, by decide, fk_Web_knot X G c ce⟩, trivial⟩ trivial (fun _ _ _ _ _ _ us hl => match us, hl with | [_, _, _], _ => rfl)
theorem fk_Web_near (X : K.In h) (G : h.Ns mainGlobals mg) (c : He.SaysD fa fn K) (ce : exB K = true) : MeC P w K mg base "near" (He.ga K "Web") 5 (sp_Web_near K) [] :=
  def_me (N := ["self", "name", "found", "other", "strength"]) (ps := ["self", "name"]) (G := []) (M := [("need_place", He.ga K "Web", sp_Web_need_place K, []), ("strength", He.ga K "Web", sp_Web_strength K, [])]) (Hs := []) (t := t_Web_near K) (c.def_ 48 (d := d_Web_near) (by rfl)) (He.cls_ok (c.fact 0 (by rfl))) (He.meth_ok (c.fact 64 (by rfl))) (by decide +kernel) 60 (fun vs H Q E h => match vs, h with | [_, _], _ => rfl) (fun _ => by kernel_rfl) (fun vs H Q E h => match vs, h with | [a0, a1], h => pure_Web_near h) trivial ⟨⟨3, by decide, fk_Web_need_place X G c ce⟩, ⟨4, by decide, fk_Web_strength X G c ce⟩, trivial⟩ trivial (fun _ _ _ _ _ _ us hl => match us, hl with | [_, _], _ => rfl)
theorem fk_Web_weight (X : K.In h) (G : h.Ns mainGlobals mg) (c : He.SaysD fa fn K) (ce : exB K = true) : MeC P w K mg base "weight" (He.ga K "Web") 4 (sp_Web_weight K) [] :=
  def_me (N := ["self", "name"]) (ps := ["self", "name"]) (G := []) (M := [("need_place", He.ga K "Web", sp_Web_need_place K, [])]) (Hs := []) (t := t_Web_weight K) (c.def_ 49 (d := d_Web_weight) (by rfl)) (He.cls_ok (c.fact 0 (by rfl))) (He.meth_ok (c.fact 65 (by rfl))) (by decide +kernel) 60 (fun vs H Q E h => match vs, h with | [_, _], _ => rfl) (fun _ => by kernel_rfl) (fun vs H Q E h => match vs, h with | [a0, a1], h => pure_Web_weight h) trivial ⟨⟨3, by decide, fk_Web_need_place X G c ce⟩, trivial⟩ trivial (fun _ _ _ _ _ _ us hl => match us, hl with | [_, _], _ => rfl)
theorem fk_l_shows (X : K.In h) (G : h.Ns mainGlobals mg) (c : He.SaysD fa fn K) (ce : exB K = true) : FnC P w K mg base "_law_shows" 6 (sp_l_shows K) [] :=
  def_fn (N := ["_law_web", "_law_state", "_law_names", "_law_strong", "_law_name_here", "_law_pair", "_law_strength", "_law_near", "_law_due", "_law_other"]) (ps := ["_law_web", "_law_state"]) (G := [("list", .bl), ("_law_ties", .fn (sp_l_ties K) []), ("sum", .bl)]) (M := [("ties", He.ga K "Web", sp_Web_ties K, []), ("names", He.ga K "Web", sp_Web_names K, []), ("force", He.ga K "Web", sp_Web_force K, []), ("total", He.ga K "Web", sp_Web_total K, []), ("near", He.ga K "Web", sp_Web_near K, []), ("weight", He.ga K "Web", sp_Web_weight K, []), ("strength", He.ga K "Web", sp_Web_strength K, [])]) (Hs := []) (t := t_l_shows K) (c.def_ 50 (d := d_l_shows) (by rfl)) (He.glo_ok X G (c.fact 66 (by rfl))) (by decide +kernel) 60 (fun vs H Q E h => match vs, h with | [_, _], _ => rfl) (fun _ => by kernel_rfl) (fun vs H Q E h => match vs, h with | [a0, a1], h => pure_l_shows h) ⟨He.free_ok X G (c.fact 26 (by rfl)), ⟨1, by decide, fk_l_ties X G c ce⟩, He.free_ok X G (c.fact 15 (by rfl)), trivial⟩ ⟨⟨1, by decide, fk_Web_ties X G c ce⟩, ⟨1, by decide, fk_Web_names X G c ce⟩, ⟨1, by decide, fk_Web_force X G c ce⟩, ⟨1, by decide, fk_Web_total X G c ce⟩, ⟨5, by decide, fk_Web_near X G c ce⟩, ⟨4, by decide, fk_Web_weight X G c ce⟩, ⟨4, by decide, fk_Web_strength X G c ce⟩, trivial⟩ trivial (fun _ _ _ _ _ _ us hl => match us, hl with | [_, _], _ => rfl)
theorem fk_l_asked (X : K.In h) (G : h.Ns mainGlobals mg) (c : He.SaysD fa fn K) (ce : exB K = true) : FnC P w K mg base "_law_asked" 6 (sp_l_asked K) [] :=
  def_fn (N := ["_law_web", "_law_way", "_law_one", "_law_other", "_law_e"]) (ps := ["_law_web", "_law_way", "_law_one", "_law_other"]) (G := [("CutError", .con (.ref (He.ga K "CutError")))]) (M := [("weight", He.ga K "Web", sp_Web_weight K, []), ("near", He.ga K "Web", sp_Web_near K, []), ("strength", He.ga K "Web", sp_Web_strength K, [])]) (Hs := [("_law_named", spE_l_named K)]) (t := t_l_asked K) (c.def_ 51 (d := d_l_asked) (by rfl)) (He.glo_ok X G (c.fact 67 (by rfl))) (by decide +kernel) 60 (fun vs H Q E h => match vs, h with | [_, _, _, _], _ => rfl) (fun _ => by kernel_rfl) (fun vs H Q E h => match vs, h with | [a0, a1, a2, a3], h => pure_l_asked h) ⟨⟨_, He.glo_ok X G (c.fact 8 (by rfl)), rfl⟩, trivial⟩ ⟨⟨4, by decide, fk_Web_weight X G c ce⟩, ⟨5, by decide, fk_Web_near X G c ce⟩, ⟨4, by decide, fk_Web_strength X G c ce⟩, trivial⟩ ⟨⟨1, by decide, fk_hot_l_named X G c ce⟩, trivial⟩ (fun _ _ _ _ _ _ us hl => match us, hl with | [_, _, _, _], _ => rfl)
theorem fk_l_questions (X : K.In h) (G : h.Ns mainGlobals mg) (c : He.SaysD fa fn K) (ce : exB K = true) : FnC P w K mg base "_law_questions" 7 (sp_l_questions K) [] :=
  def_fn (N := ["_law_web", "_law_state", "_law_one", "_law_other", "_law_way", "_law_due", "_law_name_here"]) (ps := ["_law_web", "_law_state", "_law_one", "_law_other"]) (G := [("range", .bl), ("int", .bl), ("str", .bl), ("isinstance", .bl), ("_law_asked", .fn (sp_l_asked K) []), ("_law_alike", .fn (sp_l_alike K) [])]) (M := []) (Hs := []) (t := t_l_questions K) (c.def_ 52 (d := d_l_questions) (by rfl)) (He.glo_ok X G (c.fact 68 (by rfl))) (by decide +kernel) 60 (fun vs H Q E h => match vs, h with | [_, _, _, _], _ => rfl) (fun _ => by kernel_rfl) (fun vs H Q E h => match vs, h with | [a0, a1, a2, a3], h => pure_l_questions h) ⟨He.free_ok X G (c.fact 44 (by rfl)), He.free_ok X G (c.fact 11 (by rfl)), He.free_ok X G (c.fact 4 (by rfl)), He.free_ok X G (c.fact 5 (by rfl)), ⟨6, by decide, fk_l_asked X G c ce⟩, ⟨1, by decide, fk_l_alike X G c ce⟩, trivial⟩ trivial trivial (fun _ _ _ _ _ _ us hl => match us, hl with | [_, _, _, _], _ => rfl)
theorem fk_law_ok (X : K.In h) (G : h.Ns mainGlobals mg) (c : He.SaysD fa fn K) (ce : exB K = true) {fd : FuncData} (F : FunD K d_law.name d_law.qual d_law.params d_law.body d_law.scope (d_law.dvs K) (d_law.kws K) (He.fAd K d_law.at_) fd) : FnOk P w K mg base (L2.CX P w) 8 (He.ga K "law") fd ["_law_script"] (sp_law K) :=
  def_ok (N := ["_law_script", "_law_web", "_law_state", "_law_deed", "_law_cell", "_law_xs", "_law_fault_here"]) (ps := ["_law_script"]) (G := [("Web", .cls (He.ga K "Web") (sp_Web_init K) []), ("_law_done", .fn (sp_l_done K) []), ("_law_apply", .fn (sp_l_apply K) []), ("_law_row", .fn (sp_l_row K) []), ("_law_drawn", .fn (sp_l_drawn K) []), ("_law_fault", .fn (sp_l_fault K) []), ("_law_alike", .fn (sp_l_alike K) []), ("_law_shows", .fn (sp_l_shows K) []), ("_law_questions", .fn (sp_l_questions K) []), ("_law_odd", .fn (sp_l_odd K) [])]) (M := []) (Hs := []) (t := t_law K) F (by decide +kernel) 60 (fun vs H Q E h => match vs, h with | [_], _ => rfl) (fun _ => by kernel_rfl) (fun vs H Q E h => match vs, h with | [a0], h => pure_law h) ⟨⟨1, by decide, fk_Web_init X G c ce⟩, ⟨7, by decide, fk_l_done X G c ce⟩, ⟨2, by decide, fk_l_apply X G c ce⟩, ⟨1, by decide, fk_l_row X G c ce⟩, ⟨3, by decide, fk_l_drawn X G c ce⟩, ⟨3, by decide, fk_l_fault X G c ce⟩, ⟨1, by decide, fk_l_alike X G c ce⟩, ⟨6, by decide, fk_l_shows X G c ce⟩, ⟨7, by decide, fk_l_questions X G c ce⟩, ⟨1, by decide, fk_l_odd X G c ce⟩, trivial⟩ trivial trivial
theorem facts {f : Addr} (X : K.In h) (G : h.Ns mainGlobals mg) (hfa : mg ("law" : Str) = some (.ref f)) (c : He.SaysD fa fn K) (ce : exB K = true) :
    ∃ fd : FuncData, (∀ (s : Shared) (v : Value), BindsTo s fd ⟨[v], []⟩ [("_law_script", v)]) ∧ ∀ base : Heap, K.In base → base.Ns mainGlobals mg → FnOk P w K mg base (L2.CX P w) 8 f fd ["_law_script"] (sp_law K) := by
  obtain ⟨fd, F⟩ := c.def_ 53 (d := d_law) (by rfl)
  have e := hfa.symm.trans (He.glo_ok X G (c.fact 69 (f := .glo "law") (by rfl)))
  cases e
  have b := FunD.bindsA (ps := ["_law_script"]) F fun _ _ _ _ _ _ us hl => match us, hl with | [_], _ => rfl
  exact ⟨fd, fun s v => b s [v] rfl, fun base _ _ => fk_law_ok X G c ce F⟩
end
abbrev R : PySem.W.OpenRow := PySem.W.OpenLaw.row PySem.Challenge.rw_evencut_k12_deeds_refused
abbrev hk : PySem.W.Hook := hookY 6 fa fn exB
def ob (s : PySem.W.SharedT) : AlY := obsY 6 fa fn exB (HandSHeadRun.getT s)
theorem ob_eq (s : PySem.W.SharedT) : ob s = hk.obs s.abs := obsY_eq (HandSHeadRun.getT_eq s)
def loose : List PySem.Str := (["_wall", "CutError", "NoName", "NoWeight", "NoStrength", "NoPlace", "NoTie", "Same", "Taken", "Tied", "TooMany", "Beyond", "LETTERS", "LONGEST_NAME", "is_whole", "is_name", "MOST_PLACES", "MOST_TIES", "MOST", "Web", "_law_row", "_law_is_name", "_law_is_whole", "_law_name", "_law_odd", "_law_number", "_law_two_fault", "_law_tied", "_law_put_fault", "_law_weigh_fault"] : List PySem.Str) ++ (["_law_tie_fault", "_law_more_fault", "_law_fault", "_law_apply", "_law_ties", "_law_shows", "_law_named", "_law_done", "_law_alike", "_law_any_name", "_law_drawn", "_law_asked", "_law_questions"] : List PySem.Str)
def STEPS : Nat := 12000
theorem run (w : World) : HandSHeadRun.RunEq R (PySem.W.view R.prog [47]) hk ob STEPS loose w := by
  intro os
  kernel_rfl
end Wk12
open PySem PySem.W PySem.Calls PyProof.Rows
set_option maxHeartbeats 0 in
theorem PySem.Challenge.cw_evencut_k12_deeds_refused_holds : PySem.Challenge.rw_evencut_k12_deeds_refused.Holds := by
  w_on; o_law
  refine HandSHeadRun.head_any (r := OpenLaw.row PySem.Challenge.rw_evencut_k12_deeds_refused) (q := view (OpenLaw.row PySem.Challenge.rw_evencut_k12_deeds_refused).prog [47]) (H := Wk12.hk) (ob := Wk12.ob) (M := Wk12.STEPS) (loose := Wk12.loose) (d := HandSHeadRun.topDef (OpenLaw.row PySem.Challenge.rw_evencut_k12_deeds_refused).prog 47) (kwd := []) Wk12.ob_eq
    (by kernel_rfl) (fun s => by kernel_rfl) Wk12.run (by kernel_rfl) (by kernel_rfl) (by kernel_rfl) (by rfl) (by first | assumption | decide +kernel) (by decide +kernel) ⟨rfl, rfl, rfl, rfl, rfl, by decide +kernel⟩ ?hw ?hc
  case hw => w_witness2
  case hc =>
    refine Rf.walk_ofW (l := PySem.Challenge.rw_evencut_k12_deeds_refused) (n := 63) (k := 8) (x := "_law_script") rfl (by decide) (by kernel_rfl) ⟨rfl, by decide, by decide⟩ ?F
    intro w mg fa h Y G hmg0
    obtain ⟨K, KX, cx⟩ := Y
    have c := cx.d
    have ce := cx.more
    have hmg : mg ("law" : PySem.Str) = some (.ref fa) := by
      have e : (HandSHeadRun.topDef (OpenLaw.row PySem.Challenge.rw_evencut_k12_deeds_refused).prog 47).name = ("law" : PySem.Str) := by kernel_rfl
      rw [← e]
      exact hmg0
    obtain ⟨fd, hb, hF⟩ := Wk12.facts (P := (PySem.Challenge.rw_evencut_k12_deeds_refused).prog) (w := w) KX G hmg c ce
    exact ⟨K, fd, Wk12.sp_law K, KX, hb, fun H a ns hl _ hS => ⟨Rf.errB_ok (Wk12.ex_at ce 0 (by rfl)), ⟨He.cls_ok (c.fact 0 (by rfl)), He.noat_ok (c.fact 74 (by rfl)), He.noat_ok (c.fact 75 (by rfl))⟩, a, ns, rfl, hS, hl, fun _ => rfl⟩, hF⟩
