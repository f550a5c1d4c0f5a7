import PyProof.Rows.All
import Wide.All
import OpenK.AllK
import Wide.FinOn
import HandS.List
import HandS.More
import HandS.Dict
import HandS.IsInst
import HandS.WordsDict
import HandS.TupLen
import KE.KDictWalk
import KE.KDictCopyH
import HandS.DeepEq
import PyProof.NeKinds
import HandS.DictTup
import PyProof.DictFindH
import KE.KEqNest
import HandS.ForMost
import HandS.Exc
import HandS.WordsExc
import HandS.Wide
import HandS.Defaults
import HandS.Walk
import HandS.DictComp
import HandS.Conv
import HandS.SetKeys
import HandS.Style
import PyProof.EqAt
import HandS.HeadEnd
import HandS.HeadHook2
import HandS.Head2
import HandS.ListItems
import KE.GoesMore
import KE.GoesEnum
import HandS.Iter
import PyProof.EnumMake
import PyProof.Draws
import PyProof.SumWalkG
import HandS.ExcOwn
import HandS.CallSlots
import HandS.ExcInit
import HandS.Ends
import PyProof.ReprRoads
import KE.KExcIs
import HandS.ExcIs
import HandS.ExcField
import HandS.HotCalls
import HandS.ExcInitHot
import HandS.ExcCtx
import HandS.Hot
import HandS.Comp
import PyProof.ZipIter
import KE.KDictItemsList
import HandS.SortRule
import KE.GoesZip
import KE.DataFind
import KE.GoesEnumKw
import HandS.Replace
import HandS.Sort
import HandS.SortInts
import HandS.Text
import HandS.NoneIn
import HandS.HeadHook4
import PySem.Challenge.RW_evencut_k27_no_cuttings_at_any_door
set_option Elab.async false
set_option linter.all false
set_option maxRecDepth 100000
set_option maxHeartbeats 4000000
namespace Rf
open PySem L2 PySem.Spec PyProof.Rows
/-! ### (i, j) in a list of tuples of ints -/
theorem eqv_ints : ∀ (a b : List Int), PyData.eqvAll (a.map PyData.int) (b.map PyData.int) = decide (a = b)
  | [], [] => rfl
  | [], _ :: _ => rfl
  | _ :: _, [] => rfl
  | i :: a, j :: b => by
    show (PyData.eqv (.int i) (.int j) && PyData.eqvAll (a.map PyData.int) (b.map PyData.int)) = _
    rw [eqv_ints a b]
    show ((i == j) && decide (a = b)) = decide (i :: a = j :: b)
    by_cases c : i = j
    · by_cases d : a = b
      · rw [c, d]; simp
      · rw [decide_eq_false d, decide_eq_false (fun z => d (List.cons.inj z).2)]
        simp
    · rw [decide_eq_false (fun z => c (List.cons.inj z).1)]
      simp [c]
theorem lay_ints : ∀ (a : List Int), PyData.canLayAll0 (a.map PyData.int) = true ∧ PyData.depthAll (a.map PyData.int) = 0
  | [] => ⟨rfl, rfl⟩
  | i :: a => by
    obtain ⟨h1, h2⟩ := lay_ints a
    refine ⟨?_, ?_⟩
    · show (PyData.canLay0 (.int i) && PyData.canLayAll0 (a.map PyData.int)) = true
      rw [h1]; rfl
    · show max (PyData.depth (.int i)) (PyData.depthAll (a.map PyData.int)) = 0
      rw [h2]; rfl
theorem dp_ints {K : PySem.W.Frag} {H : Hp} : ∀ (a : List Int), DpAll K H (a.map V.int) (a.map PyData.int)
  | [] => .nil
  | i :: a => .cons (.int i) (dp_ints a)
def rInI (K : PySem.W.Frag) (neg : Bool) : R2 := fun x y H Q => ∃ (a : Addr) (zs : List Int) (p : Addr) (ts : List Addr), x = .ref a ∧ H a = some (.tup (zs.map V.int)) ∧ y = .ref p ∧ SqL K H p (ts.map V.ref) ∧ (∀ t ∈ ts, ∃ ws : List Int, H t = some (.tup (ws.map V.int))) ∧
  ∀ b : Bool, (b = true ↔ ∃ t ∈ ts, H t = some (.tup (zs.map V.int))) → Q (.bl (if neg then !b else b)) H
open Classical in
noncomputable def eqP (H : Hp) (zs : List Int) : Value → Bool
  | .ref t => decide (H t = some (.tup (zs.map V.int)))
  | _ => false
theorem int_map_inj {a b : List Int} (h : a.map V.int = b.map V.int) : a = b := by
  induction a generalizing b with
  | nil => cases b with
    | nil => rfl
    | cons _ _ => cases h
  | cons i a ih => cases b with
    | nil => cases h
    | cons j b =>
      rw [List.map_cons, List.map_cons] at h
      obtain ⟨h1, h2⟩ := List.cons.inj h
      cases h1
      rw [ih h2]
theorem memI {X : Cx} {pins : List (Addr × Obj)} {σ : L2.St} {H : Hp} {s : Shared} (I : L2.Inv X pins σ H s) (hu : X.A.units + 64 < cLine) {a : Addr} {zs : List Int} (ha : H a = some (.tup (zs.map V.int))) {t : Addr} {ws : List Int} (ht : H t = some (.tup (ws.map V.int))) : SeqAt.EqAt X.A.in1 s (.ref t) (.ref a) (eqP H zs (.ref t)) := by
  obtain ⟨as, r1⟩ := Dp.reads I (.tuple (ws.map PyData.int)) (.ref t) (.ref t) (.tup (SqT.of ht) (dp_ints ws)) rfl
  obtain ⟨bs, r2⟩ := Dp.reads I (.tuple (zs.map PyData.int)) (.ref a) (.ref a) (.tup (SqT.of ha) (dp_ints zs)) rfl
  have e : eqP H zs (.ref t) = PyData.eqv (.tuple (ws.map PyData.int)) (.tuple (zs.map PyData.int)) := by
    show _ = PyData.eqvAll (ws.map PyData.int) (zs.map PyData.int)
    rw [eqv_ints]
    unfold eqP
    by_cases c : ws = zs
    · simp [ht, c]
    · have : ¬ (some (HO.tup (ws.map V.int)) = some (HO.tup (zs.map V.int))) := fun z => c (int_map_inj (HO.tup.inj (Option.some.inj z)))
      simp [ht, c, this]
  rw [e]
  obtain ⟨l1, d1⟩ := lay_ints ws
  obtain ⟨l2, d2⟩ := lay_ints zs
  refine SeqAt.eqAt_reads _ _ _ _ _ _ _ _ r1 r2 l1 l2 ?_
  have m1 : (PyData.tuple (ws.map PyData.int)).depth ≤ 1 := by
    show PyData.depthAll (ws.map PyData.int) + 1 ≤ 1
    omega
  have h1 : X.A.in1.units = X.A.units + 1 := rfl
  omega
theorem any_eqP {H : Hp} {zs : List Int} {b : Bool} : ∀ {ts : List Addr}, (b = true ↔ ∃ t ∈ ts, H t = some (.tup (zs.map V.int))) → (ts.map Value.ref).any (eqP H zs) = b := by
  intro ts h
  cases b with
  | true =>
    obtain ⟨t, ht, e⟩ := h.mp rfl
    rw [List.any_eq_true]
    exact ⟨.ref t, List.mem_map.mpr ⟨t, ht, rfl⟩, by unfold eqP; simp [e]⟩
  | false =>
    rw [List.any_eq_false]
    intro u hu
    obtain ⟨t, ht, rfl⟩ := List.mem_map.mp hu
    unfold eqP
    intro z
    exact absurd (h.mpr ⟨t, ht, by simpa using z⟩) (by simp)
theorem vals_of_refs : ∀ {ts : List Addr} {us : List Value}, Vals (ts.map V.ref) us → us = ts.map Value.ref
  | [], _, h => by cases h; rfl
  | t :: ts, _, h => by
    rw [List.map_cons] at h
    cases h with
    | cons r rr =>
      cases r
      rw [vals_of_refs rr]
      rfl
theorem op_inI {X : Cx} (hu : X.A.units + 64 < cLine) : OpR X (compareOp .In) (rInI X.K false) := by
  intro pins s σ H x y v u Q I rx ry h
  obtain ⟨a, zs, p, ts, rfl, ha, rfl, hq, hts, q⟩ := h
  cases rx
  cases ry
  obtain ⟨its, r, pl, hz⟩ := I.list hq
  obtain rfl := vals_of_refs r
  refine SeqAt.in_listAt (eqP H zs) pl.isList (fun w hw => ?_) ⟨.bl _, H, I, ?_, q ((ts.map Value.ref).toArray.any (eqP H zs)) ?_⟩
  · obtain ⟨t, ht, rfl⟩ := List.mem_map.mp (show w ∈ ts.map Value.ref by simpa using hw)
    obtain ⟨ws, hws⟩ := hts t ht
    exact memI I hu ha hws
  · rfl
  · rw [show (ts.map Value.ref).toArray.any (eqP H zs) = (ts.map Value.ref).any (eqP H zs) by simp]
    constructor
    · intro h
      rw [List.any_eq_true] at h
      obtain ⟨u, hu', hh⟩ := h
      obtain ⟨t, ht, rfl⟩ := List.mem_map.mp hu'
      exact ⟨t, ht, by simpa [eqP] using hh⟩
    · intro h
      exact any_eqP (b := true) ⟨fun _ => h, fun _ => rfl⟩
theorem op_ninI {X : Cx} (hu : X.A.units + 64 < cLine) : OpR X (compareOp .NotIn) (rInI X.K true) := by
  intro pins s σ H x y v u Q I rx ry h
  obtain ⟨a, zs, p, ts, rfl, ha, rfl, hq, hts, q⟩ := h
  cases rx
  cases ry
  obtain ⟨its, r, pl, hz⟩ := I.list hq
  obtain rfl := vals_of_refs r
  refine SeqAt.notIn_listAt (eqP H zs) pl.isList (fun w hw => ?_) ⟨.bl _, H, I, ?_, q ((ts.map Value.ref).toArray.any (eqP H zs)) ?_⟩
  · obtain ⟨t, ht, rfl⟩ := List.mem_map.mp (show w ∈ ts.map Value.ref by simpa using hw)
    obtain ⟨ws, hws⟩ := hts t ht
    exact memI I hu ha hws
  · rfl
  · rw [show (ts.map Value.ref).toArray.any (eqP H zs) = (ts.map Value.ref).any (eqP H zs) by simp]
    constructor
    · intro h
      rw [List.any_eq_true] at h
      obtain ⟨u, hu', hh⟩ := h
      obtain ⟨t, ht, rfl⟩ := List.mem_map.mp hu'
      exact ⟨t, ht, by simpa [eqP] using hh⟩
    · intro h
      exact any_eqP (b := true) ⟨fun _ => h, fun _ => rfl⟩
end Rf
/-! dicts with None, or a tuple, beside texts as keys: how many there are, and that None alone is in {None: x} -/
namespace Rf
open PySem L2 PySem.Spec PyProof.Rows
section
variable {prog : Program} {w : World} {A : Around} {E : Value → Shared → Prop} {s : Shared} {d a : Addr} {o : Obj} {es : Array DictEntry} {ep : Nat}
theorem own_walk_plain {u : Value} {hh : Int} {pl : List Nat} {Q : Option Nat → Shared → Prop} (ho : s.heap.get? d = some o) (hd : o.data = .dict es ep)
    (hk : ∀ e ∈ es, SeqAt.EqAt A s e.key u false) (q : Q none s) : wpAny (model prog w) A (dictWalkPlain d u hh es pl) Q E s := by
  unfold dictWalkPlain
  refine wpAny_bind ?_
  refine wpAny_forIn_list _ (fun rest b s' => s' = s ∧ b = (none, ())) _ ?_ ?_ _ _ ⟨rfl, rfl⟩
  · rintro x rest b s' ⟨rfl, rfl⟩
    cases he : es[x]? with
    | none => exact wpAny_pure ⟨rfl, rfl⟩
    | some e =>
      dsimp only
      by_cases hq : (e.hash == hh) = true
      · rw [if_pos hq]
        refine wpAny_bind (wpAny_dictEpoch ho hd (wpAny_bind (hk e (Array.mem_of_getElem? he) _ _ _ _ (wpAny_bind (wpAny_dictEpoch ho hd ?_)))))
        show wpAny _ _ (if (ep != ep) = true then _ else _) _ E _
        rw [if_neg (by simp)]
        exact wpAny_bind (wpAny_rule (wpAny_pure ⟨rfl, rfl⟩))
      · rw [if_neg hq]
        exact wpAny_pure ⟨rfl, rfl⟩
  · rintro b s' ⟨rfl, rfl⟩
    exact wpAny_pure q
theorem own_all_val {u : Value} {es : Array DictEntry} {pl : List Nat} (hu : carriedByValue u = true) (hc : ∀ e ∈ es, carriedByValue e.key = true) :
    ((u :: pl.filterMap fun i => es[i]?.map (·.key)).all carriedByValue) = true := by
  rw [List.all_cons, hu, Bool.true_and, List.all_eq_true]
  intro v hv
  obtain ⟨i, _, hi⟩ := List.mem_filterMap.mp hv
  cases he : es[i]? with
  | none => rw [he] at hi; cases hi
  | some e =>
    rw [he] at hi
    obtain rfl : e.key = v := by simpa using hi
    exact hc e (Array.mem_of_getElem? he)
/-- None is not there -/
theorem own_find_none {hh : Int} {Q : Option Nat → Shared → Prop} (ho : s.heap.get? d = some o) (hd : o.data = .dict es ep)
    (hc : ∀ e ∈ es, carriedByValue e.key = true) (hk : ∀ e ∈ es, SeqAt.EqAt A s e.key .none false) (q : Q none s) : wpAny (model prog w) A (dictFind d .none hh) Q E s := by
  unfold dictFind
  try with_reducible refine wpAny_holding ?_
  refine wpAny_bind (wpAny_dictEntries ho hd ?_)
  dsimp only
  rw [if_pos (own_all_val rfl hc)]
  exact own_walk_plain ho hd hk q
/-- a text is not there, where there are other keys -/
theorem own_find_str {x : Str} {t : Tok} {hh : Int} {Q : Option Nat → Shared → Prop} (ho : s.heap.get? d = some o) (hd : o.data = .dict es ep) (hx : (es.all fun e => isExactStrKey e.key) = false)
    (hc : ∀ e ∈ es, carriedByValue e.key = true) (hk : ∀ e ∈ es, SeqAt.EqAt A s e.key (.str x t) false) (q : Q none s) : wpAny (model prog w) A (dictFind d (.str x t) hh) Q E s := by
  unfold dictFind
  try with_reducible refine wpAny_holding ?_
  refine wpAny_bind (wpAny_dictEntries ho hd ?_)
  dsimp only
  rw [if_neg (by rw [hx]; exact Bool.false_ne_true)]
  rw [if_pos (own_all_val rfl hc)]
  exact own_walk_plain ho hd hk q
theorem own_tells {K : Type} [DecidableEq K] {knd : HeapKind prog w K} {k : K} {stored : List Value} {Q : Bool → Shared → Prop} (hkey : knd.is s.heap k a)
    (hst : ∀ v ∈ stored, carriedByValue v = true) (h : Q false s) : wpAny (model prog w) A (tableMayTell (.ref a) stored) Q E s := by
  unfold tableMayTell
  split
  · exact wpAny_pure h
  · refine wpAny_bind (knd.quiet hkey ?_)
    simp only [Bool.not_true, Bool.false_eq_true, if_false]
    refine wpAny_bind ?_
    refine wpAny_forIn_list _ (fun rest r s' => s' = s ∧ r = (none, ()) ∧ ∀ v ∈ rest, carriedByValue v = true) _ ?_ ?_ _ _ ⟨rfl, rfl, hst⟩
    · rintro x rest r s' ⟨rfl, rfl, hr⟩
      rw [eqIsQuiet_byValue _ (hr x List.mem_cons_self)]
      refine wpAny_bind (wpAny_pure ?_)
      simp only [Bool.not_true, Bool.false_eq_true, if_false]
      exact wpAny_pure ⟨rfl, rfl, fun v hv => hr v (List.mem_cons_of_mem _ hv)⟩
    · rintro r s' ⟨rfl, rfl, _⟩
      exact wpAny_pure h
/-- a tuple is not there, where no tuple is a key -/
theorem own_find_tup {K : Type} [DecidableEq K] {knd : HeapKind prog w K} {k : K} {hh : Int} {Q : Option Nat → Shared → Prop} (hkey : knd.is s.heap k a) (ho : s.heap.get? d = some o) (hd : o.data = .dict es ep)
    (hc : ∀ e ∈ es, carriedByValue e.key = true) (hk : ∀ e ∈ es, SeqAt.EqAt A s e.key (.ref a) false) (q : Q none s) : wpAny (model prog w) A (dictFind d (.ref a) hh) Q E s := by
  have hany : ¬ (es.any fun e => e.key == Value.ref a && e.hash != hh) = true := by
    rw [← Array.any_toList, List.any_eq_true]
    rintro ⟨e, hin, hz⟩
    have h1 := hc e (Array.mem_toList_iff.mp hin)
    simp only [Bool.and_eq_true, beq_iff_eq] at hz
    rw [hz.1] at h1
    cases h1
  have hst : ∀ v ∈ (placesWithHash es.size (fun i => es[i]?.map (·.hash)) hh).filterMap (fun i => es[i]?.map (·.key)), carriedByValue v = true := by
    intro v hv
    obtain ⟨i, _, hi⟩ := List.mem_filterMap.mp hv
    cases hei : es[i]? with
    | none => rw [hei] at hi; cases hi
    | some e =>
      rw [hei] at hi
      obtain rfl : e.key = v := by simpa using hi
      exact hc e (Array.mem_of_getElem? hei)
  unfold dictFind
  try with_reducible refine wpAny_holding ?_
  refine wpAny_bind (wpAny_dictEntries ho hd ?_)
  dsimp only
  rw [if_neg (show ¬ ((Value.ref a :: (placesWithHash es.size (fun i => es[i]?.map (·.hash)) hh).filterMap (fun i => es[i]?.map (·.key))).all carriedByValue) = true by simp [carriedByValue])]
  rw [if_neg hany]
  by_cases hone : (((placesWithHash es.size (fun i => es[i]?.map (·.hash)) hh).filterMap (fun i => es[i]?.map (·.key))) == [Value.ref a]) = true <;>
  (first | rw [if_pos hone] | rw [if_neg hone]) <;> (first | refine wpAny_bind (wpAny_pure ?_) | refine wpAny_bind (own_tells hkey hst ?_)) <;> (
    rw [if_neg (by simp)]
    refine wpAny_bind ?_
    refine wpAny_forIn_list _ (fun rest b s' => s' = s ∧ b = (none, none)) _ ?_ ?_ _ _ ⟨rfl, rfl⟩
    · rintro x rest b s' ⟨rfl, rfl⟩
      cases he : es[x]? with
      | none => exact wpAny_pure ⟨rfl, rfl⟩
      | some e =>
        dsimp only
        by_cases hq : (e.hash == hh) = true
        · rw [if_pos hq]
          refine wpAny_bind (wpAny_dictEpoch ho hd (wpAny_bind (hk e (Array.mem_of_getElem? he) _ _ _ _ (wpAny_bind (wpAny_dictEpoch ho hd ?_)))))
          show wpAny _ _ (if (ep != ep) = true then _ else _) _ E _
          rw [if_neg (by simp)]
          simp only [Bool.false_eq_true, if_false]
          refine wpAny_bind (wpAny_rule ?_)
          first | rw [if_neg (by simp)] | skip
          first
            | exact wpAny_pure ⟨rfl, rfl⟩
            | exact wpAny_bind (wpAny_pure (wpAny_pure ⟨rfl, rfl⟩))
        · rw [if_neg hq]
          exact wpAny_pure ⟨rfl, rfl⟩
    · rintro b s' ⟨rfl, rfl⟩
      exact wpAny_pure q)
/-- d[u] = v, where u is no key of d -/
theorem own_set_new {u v : Value} {hh : Int} {n : Nat} {Q : Unit → Shared → Prop}
    (hash : ∀ {Q : Int → Shared → Prop}, Q hh { s with toks := s.toks + n } → wpAny (model prog w) A.in1 (pyHash u) Q E s)
    (find : ∀ {Q : Option Nat → Shared → Prop}, Q none { s with toks := s.toks + n } → wpAny (model prog w) A.in1 (dictFind d u hh) Q E { s with toks := s.toks + n })
    (hm : s.heap.DictRaw d es ep) (hz : es.size ≤ sizeLine)
    (q : ∀ h', h'.DictRaw d (es.push ⟨hh, u, v⟩) (ep + 1) → Heap.SameBut d s.heap h' → Q () { s with heap := h', toks := s.toks + n }) : wpAny (model prog w) A (setItem (.ref d) u v) Q E s := by
  obtain ⟨o, ho, hc, hd⟩ := id hm
  unfold setItem
  try with_reducible refine wpAny_holding ?_
  refine wpAny_bind (wpAny_sequenceKey hm.typeIs (by decide) ?_)
  refine wpAny_bind (wpAny_callSpecial?_slot (name := Str.ofString "__setitem__") hm.typeIs slot_dict_setitem
    (wpAny_call_entry slot_dict_setitem hm.typeIs entry_dict_setitem ?_ (args_dict_setitem _ _ _)))
  show wpAny _ _ (Builtin.Dict.notOrdered "__setitem__" ⟨[.ref d, u, v], []⟩ >>= _) _ _ s
  refine wpAny_bind (wpAny_notOrdered_dict hm.typeIs ?_)
  show wpAny _ _ (dictSet d u v >>= _) _ _ s
  refine wpAny_bind ?_
  unfold dictSet
  try with_reducible refine wpAny_holding ?_
  refine wpAny_bind (hash ?_)
  unfold dictSetHashed
  try with_reducible refine wpAny_holding ?_
  refine wpAny_bind (find ?_)
  refine wpAny_bind (wpAny_rule (wpAny_updateDictKeys (hz := hz) (s := { s with toks := s.toks + n }) ho hd ?_))
  exact wpAny_pure ⟨.none, rfl, wpAny_pure (q _ ⟨_, Heap.get?_update_self _ ho (Obj.isFreed_of_dict (Obj.data_mapDictKeys hd _)), hc.mapDictKeys _, Obj.data_mapDictKeys hd _⟩ (Heap.SameBut.update ..))⟩
/-- x in d, where x is no key of d -/
theorem own_in_not {u : Value} {hh : Int} {n : Nat} {Q : Value → Shared → Prop}
    (hash : ∀ {Q : Int → Shared → Prop}, Q hh { s with toks := s.toks + n } → wpAny (model prog w) A.in1 (pyHash u) Q E s)
    (find : ∀ {Q : Option Nat → Shared → Prop}, Q none { s with toks := s.toks + n } → wpAny (model prog w) A.in1 (dictFind d u hh) Q E { s with toks := s.toks + n })
    (hm : s.heap.DictRaw d es ep) (hsys : (d == sysModules) = false)
    (q : Q (.bool false) { s with toks := s.toks + n }) : wpAny (model prog w) A (compareOp .In u (.ref d)) Q E s := by
  show wpAny _ _ (do return .bool (← contains (.ref d) u)) Q E s
  refine wpAny_bind ?_
  unfold contains
  try with_reducible refine wpAny_holding ?_
  refine wpAny_bind (wpAny_specialOf hm.typeIs slot_dict_contains.lookup ?_)
  show wpAny _ _ (if (some (Value.builtin "dict.__contains__") == some Value.none) = true then _ else _) _ E s
  rw [if_neg (by rw [beq_builtin_none]; exact Bool.false_ne_true)]
  refine wpAny_bind (wpAny_callSpecialUnlessNone?_slot (name := Str.ofString "__contains__") hm.typeIs slot_dict_contains
    (wpAny_call_entry slot_dict_contains hm.typeIs entry_dict_contains ?_ (args_dict_contains _ _)))
  show wpAny _ _ (dictGet d u >>= _) _ _ s
  refine wpAny_bind ?_
  unfold dictGet
  try with_reducible refine wpAny_holding ?_
  refine wpAny_bind (hash ?_)
  refine wpAny_bind (find ?_)
  refine wpAny_pure ?_
  show wpAny _ _ (Builtin.Dict.pendingKey? d u >>= _) _ _ _
  exact wpAny_bind (wpAny_pendingKey_other hsys (wpAny_pure ⟨_, rfl, wpAny_truthy_bool (wpAny_pure q)⟩))
end
/-- at a stands a dict of n entries; nn: its keys are None -/
def OddP (a : Addr) (n : Nat) (nn : Bool) : Heap → Prop := fun h => ∃ es ep, h.DictRaw a es ep ∧ es.size = n ∧ n ≤ 1000000 ∧ (a == sysModules) = false ∧ (nn = true → ∀ e ∈ es, e.key = Value.none)
def oddO (a : Addr) (n : Nat) (nn : Bool) : HO := .ext (OddP a n nn)
theorem oddP_stay {a : Addr} {n : Nat} {nn : Bool} {h1 h2 : Heap} (x : OddP a n nn h1) (k : ∀ o, h1.get? a = some o → h2.get? a = some o) : OddP a n nn h2 :=
  let ⟨es, ep, r, q⟩ := x; ⟨es, ep, r.at k, q⟩
theorem oddO_ok {P : Program} {w : World} {H : Hp} {h : Heap} {a : Addr} {n : Nat} {nn : Bool} (x : OddP a n nn h) : ObjOk P w H h a (oddO a n nn) :=
  ⟨x, let ⟨_, _, ⟨o, e, _⟩, _⟩ := x; ⟨o, e⟩, fun _ _ y k => oddP_stay y k⟩
/-- a key that is None, or a tuple of texts and ints -/
def OddK (H : Hp) (y : V) : Prop := y = .non ∨ ∃ (t : Addr) (ks : List Key), y = .ref t ∧ H t = some (.tup (ks.map kV))
def rSetOdd : TSet := fun o i v H Q => ∃ a kvs, o = .ref a ∧ H a = some (.dK kvs) ∧ kvs.length < 1000 ∧ OddK H i ∧ Q (upd H a (oddO a (kvs.length + 1) false))
section
variable {X : Cx}
theorem own_keys {P : Program} {w : World} {h : Heap} {a : Addr} {vs : List (Key × Value)} (dd : h.DictOf (mixKind P w) a vs) : ∃ es ep, h.DictRaw a es ep ∧ es.size = vs.length ∧ ∀ e ∈ es, (∃ i t, e.key = Value.int i t) ∨ ∃ x t, e.key = Value.str x t := by
  obtain ⟨o, es, ep, ho, hc, hd, hk, hp, hn⟩ := id dd
  obtain ⟨es2, ep2, r2, z2, _⟩ := Heap.DictOf.raw dd
  obtain ⟨o2, ho2, hc2, hd2⟩ := id r2
  rw [ho] at ho2
  cases ho2
  rw [hd] at hd2
  cases hd2
  refine ⟨es, ep, r2, z2, fun e he => ?_⟩
  obtain ⟨k, hk1, _⟩ := hk e he
  rcases keyIs_shape hk1 with ⟨i, t, _, q⟩ | ⟨x, t, _, q⟩
  · exact .inl ⟨i, t, q⟩
  · exact .inr ⟨x, t, q⟩
theorem set_odd (hu : X.A.units + 1 < cLine) : PSet X rSetOdd := by
  intro pins s σ H o i v ov iv u Q I ro ri rv h
  obtain ⟨a, kvs, rfl, ha, hl, hk, q⟩ := h
  cases ro
  obtain ⟨z, hd, vs, rel, dd⟩ := dk_of I.hok ha
  obtain ⟨es, ep, r, hsz, hks⟩ := own_keys dd
  have hlen : es.size = kvs.length := by rw [hsz, ← rel.length]
  have hcar : ∀ e ∈ es, carriedByValue e.key = true := fun e he => by
    rcases hks e he with ⟨i, t, q⟩ | ⟨x, t, q⟩ <;> (rw [q]; rfl)
  have done : ∀ (h' : Heap) (hh : Int) (uu : Value) (n : Nat), h'.DictRaw a (es.push ⟨hh, uu, u⟩) (ep + 1) → Heap.SameBut a s.heap h' → ∃ H4, Inv X pins σ H4 { s with heap := h', toks := s.toks + n } ∧ Q H4 := fun h' hh uu n r' hs' =>
    ⟨_, d_write I (by rw [ha]; exact True.intro) hs' (let ⟨o, e, _⟩ := r'; ⟨o, e⟩) (oddO_ok ⟨_, _, r', by rw [Array.size_push, hlen], by omega, hd, fun z => by cases z⟩), q⟩
  rcases hk with rfl | ⟨t, ks, rfl, ht⟩
  · cases (show iv = Value.none from ri)
    refine own_set_new (hh := (leafKind X.prog X.w).hash .none) (n := 1) (fun h => (leafKind X.prog X.w).pyHash (k := .none) rfl h) (fun {Q} h => ?_) r (by rw [sizeLine_eq]; omega) fun h' r' hs' => done h' _ _ _ r' hs'
    obtain ⟨o, ho, hc, hd⟩ := id r
    refine own_find_none (s := { s with toks := s.toks + 1 }) ho hd hcar (fun e he => ?_) h
    rcases hks e he with ⟨i, t, q⟩ | ⟨x, t, q⟩
    · rw [q]; exact SeqAt.EqAt.int_none i t
    · rw [q]; exact SeqAt.EqAt.str_none x t
  · cases (show iv = Value.ref t from ri)
    have kk := key_of (P := X.prog) (w := X.w) I.hok ht
    refine own_set_new (hh := (tupleKind (mixKind X.prog X.w)).hash ks) (n := (tupleKind (mixKind X.prog X.w)).draws ks) (fun h => (tupleKind (mixKind X.prog X.w)).pyHash (tupleKind_room_in1 hu) kk h) (fun {Q} h => ?_) r (by rw [sizeLine_eq]; omega) fun h' r' hs' => done h' _ _ _ r' hs'
    obtain ⟨o, ho, hc, hd⟩ := id r
    obtain ⟨ot, items, m, h1, h2, h3, h4⟩ := id kk
    refine own_find_tup (knd := tupleKind (mixKind X.prog X.w)) (s := { s with toks := s.toks + (tupleKind (mixKind X.prog X.w)).draws ks }) kk ho hd hcar (fun e he => ?_) h
    have hT : s.heap.IsTuple t items := ⟨ot, h1, h2, m, h3⟩
    rcases hks e he with ⟨i, t, q⟩ | ⟨x, t, q⟩
    · rw [q]; exact SeqAt.EqAt.int_tuple i t hT hu
    · rw [q]; exact SeqAt.EqAt.str_tuple x t hT hu
/-- len(d) -/
def rLenOdd : List V → Hp → VK → Prop := fun xs H Q => ∃ a n nn, xs = [.ref a] ∧ H a = some (oddO a n nn) ∧ Q (.int (n : Nat)) H
theorem call_lenOdd : CallR X (.builtin "len") rLenOdd := by
  intro pins s σ H xs us Q I r h
  obtain ⟨a, n, nn, rfl, ha, q⟩ := h
  obtain ⟨u, rfl, ru⟩ := vals1 r
  cases ru
  obtain ⟨⟨es, ep, hr, hn, hl, hsys, _⟩, _⟩ := (show ObjOk X.prog X.w H s.heap a (oddO a n nn) from I.hok a _ ha)
  refine call_len_slot (n := ((n : Nat) : Int)) hr.typeIs PySem.F.slot_dict_len (fun Q' hq => ?_) (by omega) (by omega) ⟨.int (n : Nat), H, I.tok _, ⟨_, rfl⟩, q⟩
  refine call_len_raw hsys hr ?_
  rw [hn]
  exact hq
/-- isinstance(x, T), one class; such a dict is a dict -/
inductive TyY (K : PySem.W.Frag) (H : Hp) : V → Value → Prop where
  | base {x : V} {t : Value} (h : TyOf K H x t) : TyY K H x t
  | more {x : V} {t : Value} (h : TyX K H x t) : TyY K H x t
  | odd {a : Addr} {n : Nat} {nn : Bool} (e : H a = some (oddO a n nn)) : TyY K H (.ref a) (.type "dict")
def rIsiY (K : PySem.W.Frag) : List V → Hp → VK → Prop := fun xs H Q => ∃ (x c : V) (t u : Value) (b : Bool), xs = [x, c] ∧ ClsV c u ∧ TyY K H x t ∧ PySem.W.kitOne K t u = some b ∧ Q (.bl b) H
theorem kit_y {pins : List (Addr × Obj)} {σ : L2.St} {H : Hp} {s : Shared} {x : V} {u t : Value} (I : Inv X pins σ H s) (rx : RelV x u) (ty : TyY X.K H x t) : ∃ P : Heap → Prop, PySem.W.KitX X.K u t P ∧ P s.heap ∧ u ≠ .builtin "__main__.__loader__#opaque" := by
  cases ty with
  | base h => exact kit_of I rx (.base h)
  | more h => exact kit_of I rx h
  | @odd a n nn ea =>
    cases (show u = Value.ref a from rx)
    obtain ⟨⟨es, ep, ⟨o, h1, h2, _⟩, _⟩, _⟩ := (show ObjOk X.prog X.w H s.heap a (oddO a n nn) from I.hok a _ ea)
    exact ⟨_, PySem.W.kitx_dict, ⟨o, h1, h2.1⟩, fun z => nomatch z⟩
theorem call_isiY : CallR X (.builtin "isinstance") (rIsiY X.K) := by
  intro pins s σ H xs us Q I r h
  obtain ⟨x, c, t, u, b, rfl, k, ty, e, q⟩ := h
  obtain ⟨u1, u2, rfl, r1, r2⟩ := vals2 r
  have e2 := k.eq r2
  subst e2
  obtain ⟨P, Z, p, hx⟩ := kit_y I r1 ty
  exact PySem.W.kia_one Z I.kIn p e hx fun tk => ⟨.bl b, H, I.tok tk, rfl, q⟩
/-- a text in {None: x} -/
def rInOdd : R2 := fun x y H Q => ∃ (a : Addr) (n : Nat) (z : Str), x = .str z ∧ y = .ref a ∧ H a = some (oddO a (n + 1) true) ∧ Q (.bl false) H
theorem op_inOdd (hu : X.A.units + 1 < cLine) : OpR X (compareOp .In) rInOdd := by
  intro pins s σ H x y v u Q I rx ry h
  obtain ⟨a, n, z, rfl, rfl, ha, q⟩ := h
  obtain ⟨t, rfl⟩ := rx
  cases ry
  obtain ⟨⟨es, ep, hr, hn, hl, hsys, hN⟩, _⟩ := (show ObjOk X.prog X.w H s.heap a (oddO a (n + 1) true) from I.hok a _ ha)
  have hN := hN rfl
  refine own_in_not (hh := (leafKind X.prog X.w).hash (.text z)) (n := 1) (fun h => (leafKind X.prog X.w).pyHash (k := .text z) (keyIs_str z t) h) (fun {Q} h => ?_) hr hsys ⟨.bl false, H, I.tok _, rfl, q⟩
  obtain ⟨o, ho, hc, hd⟩ := id hr
  refine own_find_str (s := { s with toks := s.toks + 1 }) ho hd ?_ (fun e he => by rw [hN e he]; rfl) (fun e he => by rw [hN e he]; exact SeqAt.EqAt.none_str z t) h
  have h0 : 0 < es.size := by omega
  cases hb : (es.all fun e => isExactStrKey e.key) with
  | false => rfl
  | true =>
    have := (Array.all_eq_true.mp hb) 0 h0
    rw [hN es[0] (Array.getElem_mem h0)] at this
    cases this
/-- {None: x} -/
def tDispN (trs : List (TE × TE)) : TE := fun σ H Q => ∀ p, H p = none → tPairs trs σ (upd H p (.dK [])) fun ps H2 => H2 p = some (.dK []) ∧ ∃ v, ps = [(.non, v)] ∧ Q (.ref p) (upd H2 p (oddO p 1 true))
theorem pe_dispN {pos : Pos} {keys : List (Option Expr)} {values : List Expr} {trs : List (TE × TE)} (h : PPs X pos keys values trs) (hall : keys.all (·.isSome) = true) (hl : keys.length = values.length) (h0 : keys ≠ [])
    (h15 : keys.length ≤ 15) : PE X (.Dict keys values pos) (tDispN trs) := by
  refine ⟨fun pins s σ H Q I q => ?_⟩
  have hn := I.hok.fresh (Nat.le_refl s.heap.objs.size)
  have I1 := I.laid (a := s.heap.objs.size) (o := .dK []) (h' := s.heap.push { cls := .type "dict", data := .dict #[] }) (t' := s.toks) (fun _ _ q => Heap.get?_push_of_some _ q) (Nat.le_refl _) (dk_empty s.heap I.big)
  refine wpAny_Dict_walk (knd := leafKind X.prog X.w) hall hl h0 h15 (thn (h.run pins _ σ _ _ I1 (q _ hn)) fun ws s2 ⟨ps, H2, I2, rel, e, v, ep, q2⟩ => ?_)
  subst ep
  cases rel with
  | @cons p w0 ps ws hp ht =>
    cases ht
    obtain ⟨h1, h2⟩ := hp
    obtain ⟨z, hd, vs0, r0, dd⟩ := dk_of I2.hok e
    cases r0
    obtain ⟨k0, v0⟩ := w0
    cases (show k0 = Value.none from h1)
    refine ⟨[(.none, v0)], ⟨rfl, rfl, True.intro⟩, ?_, fun h' dd' hs => ⟨.ref s.heap.objs.size, _, ?_, rfl, q2⟩⟩
    · obtain ⟨o, es, ep, ho, hc, hd, hk, hp, hn⟩ := dd
      have e0 : es = #[] := by
        cases hes : es.toList with
        | nil => exact Array.toList_eq_nil_iff.mp hes
        | cons a l => rw [hes] at hp; exact absurd hp (by intro z; cases z)
      subst e0
      exact ⟨o, _, ep, ho, hc, hd, fun e he => by simp at he, .nil, List.nodup_nil⟩
    · obtain ⟨es, ep, r, hsz, hall'⟩ := Heap.DictOf.raw dd'
      refine d_write I2 (by rw [e]; exact True.intro) hs (let ⟨o, e, _⟩ := r; ⟨o, e⟩) (oddO_ok ⟨es, ep, r, by rw [hsz]; rfl, by omega, hd, fun _ e he => ?_⟩)
      obtain ⟨i, hi, rfl⟩ := Array.mem_iff_getElem.mp he
      have hsz1 : es.size = 1 := by rw [hsz]; rfl
      have i0 : i = 0 := by omega
      subst i0
      have := (hall' 0 hi .none v0 rfl).1
      have z := Leaf.nested (h := default) this
      generalize es[0].key = ky at z ⊢
      cases z
      rfl
end
end Rf
/-! a dict beside a text -/
namespace Rf
open PySem L2 PySem.Spec PyProof.Rows
section
variable {A : Around}
theorem own_str_eq_dict (b : Str) (u : Tok) (l : Addr) (c : Value) (es : Array DictEntry) (ep : Nat) (dd : Option Addr) (sl : Array (Option Value)) :
    Meets (Builtin.«str.__eq__» ⟨[.str b u, .ref l], []⟩) (fun _ R s => s.heap.get? l = some { cls := c, dict := dd, data := .dict es ep, slots := sl } ∧ R (.ok (.ret .notImplemented)) s) :=
  .of_wp fun prog w A R s h => by obtain ⟨hp, g, d, tk, os⟩ := s; obtain ⟨hl, h⟩ := h; wp_walk using wpAny_loadPart' hl, wpAny_load hl; exact ⟨_, rfl, h⟩
theorem own_eq_dict_str {prog : Program} {w : World} {E : Value → Shared → Prop} {s : Shared} {Q : Value → Shared → Prop} {a : Addr} {es : Array DictEntry} {ep : Nat} {dd : Option Addr} {sl : Array (Option Value)} (b : Str) (u : Tok) (ho : s.heap.get? a = some { cls := .type "dict", dict := dd, data := .dict es ep, slots := sl }) (hu : A.units < cLine) (h : Q (.bool false) s) :
    wpAny (model prog w) A (compareOp .Eq (.ref a) (.str b u)) Q E s := by
  have hT : s.TypeIs (.ref a) "dict" := ⟨_, ho, rfl⟩
  refine SeqAt.rc_eq_decline_or (k := false) hT (typeIs_str s b u) (by decide) PySem.F.sub_str_dict PySem.F.slot_dict_eq PySem.F.slot_str_eq_refl
    (fun Q' hq => ?_)
    (fun _ hq => call_meets PySem.F.slot_str_eq_refl (typeIs_str s b u) PySem.F.entry_str_eq (PySem.F.args_str_eq_2 _ _) (own_str_eq_dict b u a (.type "dict") es ep dd sl) ⟨ho, hq⟩)
    (fun _ hq => wpAny_of_eq (rfl : isSame (.ref a) (.str b u) = pure false) hq) (.inr hu) h
  refine wpAny_call_entry PySem.F.slot_dict_eq hT PySem.F.entry_dict_eq ?_ (PySem.F.args_dict_eq_2 _ _)
  show wpAny _ _ (Builtin.Dict.dictSlotArgs "__eq__" ⟨[.ref a, .str b u], []⟩ >>= _) _ _ s
  refine wpAny_bind ?_
  unfold Builtin.Dict.dictSlotArgs
  refine wpAny_bind (wpAny_notOrdered_dict hT ?_)
  show wpAny _ _ (pure (Value.ref a, Value.str b u)) _ _ s
  refine wpAny_pure ?_
  refine wpAny_bind (wpAny_isInstance (T := "str") (typeIs_str s b u) PySem.F.sub_str_dict ?_)
  simp only [Bool.not_false, if_true]
  refine wpAny_bind (wpAny_rule ?_)
  exact wpAny_pure ⟨_, rfl, hq⟩
/-- a list, a tuple, a dict beside a text -/
def rEqRS (K : PySem.W.Frag) : R2 := fun x y H Q => ∃ (a : Addr) (z : Str), x = .ref a ∧ y = .str z ∧ ((∃ xs, SqL K H a xs) ∨ (∃ xs, SqT K H a xs) ∨ ∃ kvs, H a = some (.dK kvs)) ∧ Q (.bl false) H
theorem op_eqRS {X : Cx} (hu : X.A.units < cLine) : OpR X (compareOp .Eq) (rEqRS X.K) := by
  intro pins s σ H x y v u Q I rx ry h
  obtain ⟨a, z, rfl, rfl, hk, q⟩ := h
  cases rx
  obtain ⟨t, rfl⟩ := ry
  have fin : EP X pins σ Q (.bool false) s := ⟨.bl false, H, I, rfl, q⟩
  rcases hk with ⟨xs, h⟩ | ⟨xs, h⟩ | ⟨kvs, h⟩
  · obtain ⟨its, r1, p1, _⟩ := I.list h
    exact SeqAt.RcAt.list_str z t p1.isList hu X.prog X.w _ _ fin
  · obtain ⟨its, r1, p1, _⟩ := I.tuple h
    exact SeqAt.RcAt.tuple_str z t p1 hu X.prog X.w _ _ fin
  · obtain ⟨_, _, vs, rel, dd⟩ := dk_of I.hok h
    obtain ⟨es, ep, ⟨⟨cls, dct, data, sl⟩, ho, hc, hd⟩, _⟩ := own_keys dd
    obtain ⟨hc1, _⟩ := hc
    simp only at hc1 hd
    subst hd
    exact own_eq_dict_str z t (by rw [ho, hc1]) hu fin
end
end Rf
namespace PySem.SeqAt
open AutoSeq1 (wpAny_loadPart')
open MeetsSeq MeetsSeq2 MeetsSeq3 SeqRoads2
section
variable {prog : Program} {w : World}
theorem own_ne_loopIn (l b : Addr) (items items2 : Array Value) (n n2 : Nat) (dd dd2 : Option Addr) (sl sl2 : Array (Option Value)) (hsz : items.size = items2.size) (e : Nat → Bool) (k : Nat) :
    ∀ i : Nat, items.size - i = k → MeetsIn prog w (Builtin.«list.__eq__.loop» ⟨[.ref l, .ref b, rawInt i, rawInt 3], []⟩)
      (fun A R s => s.heap.get? l = some { cls := .type "list", dict := dd, data := .seq items n, slots := sl } ∧ s.heap.get? b = some { cls := .type "list", dict := dd2, data := .seq items2 n2, slots := sl2 } ∧
        (∀ j (h1 : j < items.size) (h2 : j < items2.size), EqP prog w A.in1 s items[j] items2[j] (e j)) ∧
        R (.ok (.ret (.bool (!((List.range items.size).drop i).all e)))) s) := by
  induction k with
  | zero =>
    intro i hk A R s h
    obtain ⟨hp, g, d, tk, os⟩ := s; obtain ⟨hl, hb, he, h⟩ := h
    wp_walk using wpAny_loadPart' hl, wpAny_loadPart' hb
    have hi1 : items[((i : Nat) : Int).toNat]? = none := by simp; omega
    have hi2 : items2[((i : Nat) : Int).toNat]? = none := by simp; omega
    have hd : (List.range items.size).drop i = [] := by simp; omega
    rw [hd] at h
    rw [hi1, hi2]
    wp_walk using wpAny_loadPart' hl, wpAny_loadPart' hb
    show R (.ok (.ret (.bool (items.size != items2.size)))) _
    rw [hsz]
    simpa using h
  | succ k ih =>
    intro i hk A R s h
    obtain ⟨hp, g, d, tk, os⟩ := s; obtain ⟨hl, hb, he, h⟩ := h
    wp_walk using wpAny_loadPart' hl, wpAny_loadPart' hb
    have hlt : i < items.size := by omega
    have hlt2 : i < items2.size := by omega
    have hi1 : items[((i : Nat) : Int).toNat]? = some items[i] := by simp [hlt]
    have hi2 : items2[((i : Nat) : Int).toNat]? = some items2[i] := by simp [hlt2]
    have hd : (List.range items.size).drop i = i :: (List.range items.size).drop (i + 1) := by simp [List.drop_eq_getElem_cons, hlt]
    have hc : ((i : Int) + 1) = ((i + 1 : Nat) : Int) := by push_cast; rfl
    rw [hd, List.all_cons] at h
    rw [hi1, hi2]
    refine wpAny_bind (he i hlt hlt2 _ _ ?_)
    cases hb' : e i with
    | true =>
      rw [hb'] at h
      wp_walk
      rw [hc]
      exact ⟨plainId_quiet plain_eq_loop _, codeAny_builtin entry_eq_loop (by
        rw [Around.under_plainId plain_eq_loop _]
        exact ih (i + 1) (by omega) A R _ ⟨hl, hb, he, by simpa using h⟩)⟩
    | false =>
      rw [hb'] at h
      wp_walk using wpAny_loadPart' hl, wpAny_loadPart' hb
      rw [hi1, hi2]
      wp_walk
      simpa using h
theorem own_list_neIn (l b : Addr) (items items2 : Array Value) (n n2 : Nat) (dd dd2 : Option Addr) (sl sl2 : Array (Option Value)) (hsz : items.size = items2.size) (e : Nat → Bool) :
    MeetsIn prog w (Builtin.«list.__ne__» ⟨[.ref l, .ref b], []⟩)
      (fun A R s => s.heap.get? l = some { cls := .type "list", dict := dd, data := .seq items n, slots := sl } ∧ s.heap.get? b = some { cls := .type "list", dict := dd2, data := .seq items2 n2, slots := sl2 } ∧
        (∀ j (h1 : j < items.size) (h2 : j < items2.size), EqP prog w A.in1 s items[j] items2[j] (e j)) ∧
        R (.ok (.ret (.bool (!(List.range items.size).all e)))) s) := by
  intro A R s h
  obtain ⟨hp, g, d, tk, os⟩ := s; obtain ⟨hl, hb, he, h⟩ := h
  have f3 := AutoSeq1.sub_list_list
  have hne : ¬ (items.size != items2.size) = true := by simp [hsz]
  wp_walk using wpAny_loadPart' hl, wpAny_loadPart' hb
  exact ⟨plainId_quiet plain_eq_loop _, codeAny_builtin entry_eq_loop (by
    rw [Around.under_plainId plain_eq_loop _]
    exact own_ne_loopIn l b items items2 n n2 dd dd2 sl sl2 hsz e _ 0 rfl A R _ ⟨hl, hb, he, by simpa using h⟩)⟩
theorem rcPNe_lists {A : Around} {s : Shared} {l b : Addr} {items items2 : Array Value} {e : Nat → Bool} (hl : s.heap.IsList l items) (hb : s.heap.IsList b items2) (hsz : items.size = items2.size) (hu : A.units < cLine)
    (he : ∀ j (h1 : j < items.size) (h2 : j < items2.size), EqP prog w A.in1 s items[j] items2[j] (e j)) (E Q : Value → Shared → Prop) (h : Q (.bool (!(List.range items.size).all e)) s) : wpAny (model prog w) A (richCompare .NotEq (.ref l) (.ref b)) Q E s := by
  obtain ⟨⟨cls, dd, data, sl⟩, ho, hc, n, hd⟩ := id hl
  obtain ⟨⟨cls2, dd2, data2, sl2⟩, ho2, hc2, n2, hd2⟩ := id hb
  simp only at hc hd hc2 hd2
  subst hc hd hc2 hd2
  have ta : s.TypeIs (.ref l) "list" := ⟨_, ho, rfl⟩
  have tb : s.TypeIs (.ref b) "list" := ⟨_, ho2, rfl⟩
  exact wpAny_richCompare_same_room (op := .NotEq) ta tb F.slot_list_ne (call_meetsIn F.slot_list_ne ta F.entry_list_ne (F.args_list_ne_2 _ _) (own_list_neIn l b items items2 n n2 dd dd2 sl sl2 hsz e)
    ⟨ho, ho2, he, show Value.bool (!(List.range items.size).all e) ≠ Value.notImplemented ∧ Q (.bool (!(List.range items.size).all e)) s from ⟨(fun x => nomatch x), h⟩⟩) hu
end
end PySem.SeqAt
namespace Rf
open PySem L2 PySem.Spec PyProof.Rows
/-! ### lists of the same data and of equal dicts -/
def EqW (K : PySem.W.Frag) (H : Hp) (x y : V) : Prop := (∃ d, Dp K H x d ∧ Dp K H y d ∧ d.canLay0 = true ∧ d.depth ≤ 32 ∧ PyData.eqv d d = true) ∨ EqV K H 3 x y
def rNeW (K : PySem.W.Frag) : R2 := fun x y H Q => ∃ (a b : Addr) (xs ys : List V), x = .ref a ∧ y = .ref b ∧ SqL K H a xs ∧ SqL K H b ys ∧ Paired (EqW K H) xs ys ∧ Q (.bl false) H
def rEqW (K : PySem.W.Frag) : R2 := fun x y H Q => ∃ (a b : Addr) (xs ys : List V), x = .ref a ∧ y = .ref b ∧ SqL K H a xs ∧ SqL K H b ys ∧ Paired (EqW K H) xs ys ∧ Q (.bl true) H
theorem eqW_run {X : Cx} {pins : List (Addr × Obj)} {σ : L2.St} {H : Hp} {s : Shared} (I : L2.Inv X pins σ H s) (A : Around) (hu : A.units + 40 < cLine) {x y : V} {v u : Value} (h : EqW X.K H x y) (rx : L2.RelV x v) (ry : L2.RelV y u) : SeqAt.EqP X.prog X.w A s v u true := by
  rcases h with ⟨d, h1, h2, l, dp, ev⟩ | h
  · obtain ⟨as, r1⟩ := Dp.reads I d x v h1 rx
    obtain ⟨bs, r2⟩ := Dp.reads I d y u h2 ry
    have k : SeqAt.EqAt A s v u (PyData.eqv d d) := SeqAt.eqAt_reads _ _ _ _ _ _ _ _ r1 r2 l l (by omega)
    rw [ev] at k
    exact k.eqP
  · exact eqV_run I 3 A (by omega) x y v u h rx ry
theorem op_neW {X : Cx} (hu : X.A.units + 64 < cLine) : OpR X (compareOp .NotEq) (rNeW X.K) := by
  intro pins s σ H x y v u Q I rx ry h
  obtain ⟨a, b, xs, ys, rfl, rfl, ha, hb, hp, q⟩ := h
  cases (show v = Value.ref a from rx)
  cases (show u = Value.ref b from ry)
  obtain ⟨us, r1, p1, _⟩ := I.list ha
  obtain ⟨ws, r2, p2, _⟩ := I.list hb
  have hsz : us.toArray.size = ws.toArray.size := by
    rw [List.size_toArray, List.size_toArray, ← r1.length, ← r2.length]
    exact Paired.length hp
  refine SeqAt.rcPNe_lists (e := fun _ => true) p1.isList p2.isList hsz (by omega) (fun j h1 h2 => ?_) _ _ ?_
  · have k := items_run (fun x y v u f rx ry => eqW_run I X.A.in1 (by show X.A.units + 1 + 40 < cLine; omega) f rx ry) hp r1 r2 j (by simpa using h1) (by simpa using h2)
    simpa using k
  · rw [show ((List.range us.toArray.size).all fun _ => true) = true from List.all_eq_true.mpr fun _ _ => rfl]
    exact ⟨.bl false, H, I, rfl, q⟩
theorem op_eqW {X : Cx} (hu : X.A.units + 64 < cLine) : OpR X (compareOp .Eq) (rEqW X.K) := by
  intro pins s σ H x y v u Q I rx ry h
  obtain ⟨a, b, xs, ys, rfl, rfl, ha, hb, hp, q⟩ := h
  cases (show v = Value.ref a from rx)
  cases (show u = Value.ref b from ry)
  obtain ⟨us, r1, p1, _⟩ := I.list ha
  obtain ⟨ws, r2, p2, _⟩ := I.list hb
  have hsz : us.toArray.size = ws.toArray.size := by
    rw [List.size_toArray, List.size_toArray, ← r1.length, ← r2.length]
    exact Paired.length hp
  refine SeqAt.rcP_lists (e := fun _ => true) p1.isList p2.isList hsz (by omega) (fun j h1 h2 => ?_) _ _ ?_
  · have k := items_run (fun x y v u f rx ry => eqW_run I X.A.in1 (by show X.A.units + 1 + 40 < cLine; omega) f rx ry) hp r1 r2 j (by simpa using h1) (by simpa using h2)
    simpa using k
  · rw [show ((List.range us.toArray.size).all fun _ => true) = true from List.all_eq_true.mpr fun _ _ => rfl]
    exact ⟨.bl true, H, I, rfl, q⟩
end Rf
/-! == of two dicts with tuples as keys, their values equal. -/
namespace Rf
open PySem L2 PySem.W PySem.Spec PyProof.Rows
section
variable {prog : Program} {w : World} {κ : Type} [DecidableEq κ] {knd : HeapKind prog w κ} {A : Around} {E : Value → Shared → Prop} {s : Shared}
theorem samePairsH {nm : String} {a b : Addr} {xs ys : List (κ × Addr × Value)} {Q : Bool → Shared → Prop} (hr : knd.room A) (ha : (a == sysModules) = false) (hb : (b == sysModules) = false)
    (da : s.heap.DictOfH knd a xs) (db : s.heap.DictOfH knd b ys) (hl : xs.length = ys.length) (hits : ∀ x ∈ xs, ∃ (j : Nat) (p : Addr × Value), ys[j]? = some (x.1, p) ∧ SeqAt.EqP prog w A s x.2.2 p.2 true) (h : Q true s) :
    wpAny (model prog w) A (Builtin.Dict.samePairs nm a b) Q E s := by
  obtain ⟨oa, es, ep, hoa, _, hda, hea, hia, _⟩ := da
  obtain ⟨ob, es', ep', hob, _, hdb, heb, hib, hnb⟩ := db
  have hla : es.size = xs.length := size_of_entries hea
  have hlb : es'.size = ys.length := size_of_entries heb
  unfold Builtin.Dict.samePairs Builtin.Dict.showsAll
  rw [if_neg (show ¬ (a == sysModules) = true by rw [ha]; exact Bool.false_ne_true), if_neg (show ¬ (b == sysModules) = true by rw [hb]; exact Bool.false_ne_true)]
  refine wpAny_bind (wpAny_pure (wpAny_bind (wpAny_pure ?_)))
  refine wpAny_bind (wpAny_dictEntries hoa hda ?_)
  dsimp only
  refine wpAny_bind (wpAny_dictEntries hob hdb ?_)
  rw [if_neg (by rw [hla, hlb, hl]; simp)]
  refine wpAny_bind (wpAny_dictEpoch hoa hda ?_)
  refine wpAny_bind ?_
  rw [Std.Legacy.Range.forIn_eq_forIn_range']
  simp only [Std.Legacy.Range.size, Nat.sub_zero, Nat.add_sub_cancel, Nat.div_one]
  refine wpAny_forIn_list _ (fun rest q s' => s' = s ∧ q = (none, ()) ∧ ∃ i, rest = List.range' i (es.size - i) ∧ i ≤ es.size) _ ?_ ?_ _ _ ⟨rfl, rfl, 0, by simp, Nat.zero_le _⟩
  · rintro x rest q s' ⟨rfl, rfl, i, hrr, hi⟩
    have hlt : i < es.size := by
      rcases Nat.lt_or_ge i es.size with h | h
      · exact h
      · rw [Nat.sub_eq_zero_of_le h] at hrr; simp at hrr
    obtain ⟨rfl, hrest⟩ : x = i ∧ rest = List.range' (i + 1) (es.size - (i + 1)) := by
      have e : es.size - i = (es.size - (i + 1)) + 1 := by omega
      rw [e, List.range'_succ] at hrr
      injection hrr with h1 h2
      exact ⟨h1, h2⟩
    have hlt' : x < xs.length := by omega
    have hex : es[x]? = some (entryOfKey knd xs[x]) := by
      rw [entry_at hea x, List.getElem?_eq_getElem hlt']
      rfl
    refine wpAny_bind (wpAny_dictEntries hoa hda ?_)
    rw [hex]
    have hm : xs[x] ∈ xs := List.getElem_mem hlt'
    obtain ⟨j, p, hj, he⟩ := hits _ hm
    show wpAny _ _ (holding [Value.ref xs[x].2.1, xs[x].2.2] _ >>= _) _ _ _
    refine wpAny_bind (wpAny_holding (wpAny_bind (wpAny_dictFind_heap hr (hia _ hm) hob hdb heb hib hnb (fun hn => absurd hj (hn j p)) fun j' p' hj' => ?_)))
    have hey : es'[j']? = some (entryOfKey knd (xs[x].1, p')) := by
      rw [entry_at heb j', hj']
      rfl
    have hpp : p' = p := by
      have e1 : (ys.map (·.1))[j']? = some xs[x].1 := by rw [List.getElem?_map, hj']; rfl
      have e2 : (ys.map (·.1))[j]? = some xs[x].1 := by rw [List.getElem?_map, hj]; rfl
      have hjj : j' = j := (List.getElem?_inj (by rw [List.length_map]; exact (List.getElem?_eq_some_iff.mp hj').1) hnb).mp (e1.trans e2.symm)
      rw [hjj, hj] at hj'
      exact (congrArg Prod.snd (Option.some.inj hj')).symm
    subst hpp
    refine wpAny_bind (wpAny_dictEntries hob hdb ?_)
    rw [hey]
    refine wpAny_holding (he _ _ ?_)
    show wpAny _ _ (if (!true) = true then _ else _) _ _ _
    rw [if_neg (by decide)]
    refine wpAny_bind (wpAny_dictEpoch hoa hda ?_)
    rw [if_neg (by simp)]
    exact wpAny_pure ⟨rfl, rfl, x + 1, hrest, hlt⟩
  · rintro q s' ⟨rfl, rfl, i, hrr, hi⟩
    exact wpAny_pure h
theorem rcH_dicts {a b : Addr} {xs ys : List (κ × Addr × Value)} (hr : knd.room A.in1) (ha : (a == sysModules) = false) (hb : (b == sysModules) = false)
    (da : s.heap.DictOfH knd a xs) (db : s.heap.DictOfH knd b ys) (hu : A.units < cLine) (hl : xs.length = ys.length) (hits : ∀ x ∈ xs, ∃ (j : Nat) (p : Addr × Value), ys[j]? = some (x.1, p) ∧ SeqAt.EqP prog w A.in1 s x.2.2 p.2 true) (E Q : Value → Shared → Prop) (h : Q (.bool true) s) : wpAny (model prog w) A (richCompare .Eq (.ref a) (.ref b)) Q E s := by
  refine wpAny_richCompare_same_room (op := .Eq) da.typeIs db.typeIs PySem.F.slot_dict_eq (wpAny_call_entry PySem.F.slot_dict_eq da.typeIs PySem.F.entry_dict_eq ?_ (PySem.F.args_dict_eq_2 _ _)) hu
  show wpAny _ _ (Builtin.Dict.dictSlotArgs "__eq__" ⟨[.ref a, .ref b], []⟩ >>= _) _ _ s
  refine wpAny_bind ?_
  unfold Builtin.Dict.dictSlotArgs
  refine wpAny_bind (wpAny_notOrdered_dict da.typeIs ?_)
  show wpAny _ _ (pure (Value.ref a, Value.ref b)) _ _ s
  refine wpAny_pure ?_
  refine wpAny_bind (wpAny_isInstance (T := "dict") db.typeIs PySem.F.sub_dict_dict ?_)
  simp only [Bool.not_true, Bool.false_eq_true, if_false]
  refine wpAny_bind (wpAny_pure (wpAny_bind (wpAny_pure ?_)))
  refine wpAny_bind (samePairsH hr ha hb da db hl hits ?_)
  refine wpAny_pure ⟨_, rfl, ?_, ?_⟩
  · exact fun x => nomatch x
  · simpa using h
end
/-- two dicts with tuples as keys, of the same entries, the values flat -/
def EqPr (x y : V) (H : Hp) : Prop := ∃ a b ks ls, x = .ref a ∧ y = .ref b ∧ H a = some (.dT ks) ∧ H b = some (.dT ls) ∧ ks.length = ls.length ∧ ∀ p ∈ ks, p ∈ ls ∧ flatB p.2 = true
theorem paired_left {α β : Type} {R : α → β → Prop} {xs : List α} {ys : List β} (p : Paired R xs ys) : ∀ y ∈ ys, ∃ x ∈ xs, R x y := by
  induction p with
  | nil => exact fun _ h => nomatch h
  | cons r _ ih =>
    intro y hy
    rcases List.mem_cons.mp hy with e | hy
    · subst e
      exact ⟨_, List.mem_cons_self .., r⟩
    · obtain ⟨x, hx, q⟩ := ih y hy
      exact ⟨x, List.mem_cons_of_mem _ hx, q⟩
theorem paired_right {α β : Type} {R : α → β → Prop} {xs : List α} {ys : List β} (p : Paired R xs ys) : ∀ x ∈ xs, ∃ (j : Nat) (y : β), ys[j]? = some y ∧ R x y := by
  induction p with
  | nil => exact fun _ h => nomatch h
  | cons r _ ih =>
    intro x hx
    rcases List.mem_cons.mp hx with e | hx
    · subst e
      exact ⟨0, _, rfl, r⟩
    · obtain ⟨j, y, h1, q⟩ := ih x hx
      exact ⟨j + 1, y, h1, q⟩
theorem eqPr_run {X : Cx} {pins : List (Addr × Obj)} {σ : L2.St} {H : Hp} {s : Shared} (I : L2.Inv X pins σ H s) (A : Around) (hu : A.units + 4 < cLine) {x y : V} {v u : Value} (h : EqPr x y H) (rx : L2.RelV x v) (ry : L2.RelV y u) : SeqAt.EqP X.prog X.w A s v u true := by
  obtain ⟨a, b, ks, ls, rfl, rfl, ea, eb, hl, hm⟩ := h
  cases (show v = Value.ref a from rx)
  cases (show u = Value.ref b from ry)
  by_cases e : a = b
  · subst e
    exact (SeqAt.EqAt.same _).eqP
  · obtain ⟨_, sa, xs, ka, da⟩ := dt_of I.hok ea
    obtain ⟨_, sb, ys, kb, db⟩ := dt_of I.hok eb
    refine SeqAt.eqP_refs e (rcH_dicts (show A.in1.units < cLine by show A.units + 1 < cLine; omega) sa sb da db (by omega) ?_ fun q hq => ?_)
    · rw [← Paired.length ka, ← Paired.length kb, hl]
    · obtain ⟨p, hp, e1, _, e2⟩ := paired_left ka q hq
      obtain ⟨m1, m2⟩ := hm p hp
      obtain ⟨j, z, hz, f1, _, f2⟩ := paired_right kb p m1
      refine ⟨j, z.2, ?_, (eqAt_same e2 f2 m2).eqP⟩
      rw [hz, ← e1, f1]
end Rf
namespace PySem.SeqAt
open AutoSeq1 (wpAny_loadPart')
open MeetsSeq MeetsSeq2 MeetsSeq3 SeqRoads2
section
variable {prog : Program} {w : World}
theorem own_tuple_neIn (l b : Addr) (items items2 : Array Value) (n n2 : Nat) (dd dd2 : Option Addr) (sl sl2 : Array (Option Value)) (e : Nat → Bool) :
    MeetsIn prog w (Builtin.«tuple.__ne__» ⟨[.ref l, .ref b], []⟩)
      (fun A R s => s.heap.get? l = some { cls := .type "tuple", dict := dd, data := .seq items n, slots := sl } ∧ s.heap.get? b = some { cls := .type "tuple", dict := dd2, data := .seq items2 n2, slots := sl2 } ∧
        (∀ j (h1 : j < items.size) (h2 : j < items2.size), EqP prog w A.in1 s items[j] items2[j] (e j)) ∧
        R (.ok (.ret (.bool (!((List.range (min items.size items2.size)).all e && items.size == items2.size))))) s) :=
  .of_wp fun A R s h => by
    obtain ⟨hp, g, d, tk, os⟩ := s; obtain ⟨hl, hb, he, h⟩ := h
    have f2 := AutoSeq1.sub_tuple_tuple
    have hZ : (items.toList.zip items2.toList).length = min items.size items2.size := by simp
    wp_walk using wpAny_loadPart' hl, wpAny_loadPart' hb, wpAny_forIn_list _ (fun rest b s' => b.1 = none ∧ s' = ⟨hp, g, d, tk, os⟩ ∧ ∃ i, rest = (items.toList.zip items2.toList).drop i ∧
      R (.ok (.ret (.bool (!(((List.range (min items.size items2.size)).drop i).all e && items.size == items2.size))))) ⟨hp, g, d, tk, os⟩) _
    case turn =>
      rintro ⟨y, x⟩ rest b s' ⟨hb', rfl, i, hz, hR⟩
      have hlt : i < (items.toList.zip items2.toList).length := by
        rcases Nat.lt_or_ge i (items.toList.zip items2.toList).length with h' | h'
        · exact h'
        · rw [List.drop_of_length_le h'] at hz; cases hz
      have hm : i < min items.size items2.size := hZ ▸ hlt
      have h1 : i < items.size := Nat.lt_of_lt_of_le hm (Nat.min_le_left _ _)
      have h2 : i < items2.size := Nat.lt_of_lt_of_le hm (Nat.min_le_right _ _)
      rw [List.drop_eq_getElem_cons hlt] at hz
      injection hz with hyx hrest
      have hy : y = items[i] := by have := congrArg Prod.fst hyx; simpa using this
      have hx : x = items2[i] := by have := congrArg Prod.snd hyx; simpa using this
      subst hy hx
      have hd : (List.range (min items.size items2.size)).drop i = i :: (List.range (min items.size items2.size)).drop (i + 1) := by simp [List.drop_eq_getElem_cons, hm]
      rw [hd, List.all_cons] at hR
      refine wpAny_bind (he i h1 h2 _ _ ?_)
      cases hy : e i with
      | true =>
        rw [hy] at hR
        wp_walk
        exact ⟨rfl, rfl, i + 1, hrest, by simpa using hR⟩
      | false =>
        rw [hy] at hR
        wp_walk
        exact ⟨_, rfl, by simpa using hR⟩
    case fin =>
      rintro ⟨b1, b2⟩ s' ⟨hb', rfl, i, hz, hR⟩
      simp only at hb'
      subst hb'
      have hge : min items.size items2.size ≤ i := by
        rcases Nat.lt_or_ge i (items.toList.zip items2.toList).length with h' | h'
        · rw [List.drop_eq_getElem_cons h'] at hz; cases hz
        · exact hZ ▸ h'
      rw [List.drop_of_length_le (by simpa using hge)] at hR
      wp_walk
      exact ⟨_, rfl, by simpa [Builtin.Tuple.tupleCompareSizes, bne] using hR⟩
    case h =>
      exact ⟨rfl, rfl, 0, rfl, by simpa using h⟩
theorem rcPNe_tuples {A : Around} {s : Shared} {l b : Addr} {items items2 : Array Value} {e : Nat → Bool} (hl : s.heap.IsTuple l items) (hb : s.heap.IsTuple b items2) (hu : A.units < cLine)
    (he : ∀ j (h1 : j < items.size) (h2 : j < items2.size), EqP prog w A.in1 s items[j] items2[j] (e j)) (E Q : Value → Shared → Prop) (h : Q (.bool (!((List.range (min items.size items2.size)).all e && items.size == items2.size))) s) : wpAny (model prog w) A (richCompare .NotEq (.ref l) (.ref b)) Q E s := by
  obtain ⟨⟨cls, dd, data, sl⟩, ho, hc, n, hd⟩ := id hl
  obtain ⟨⟨cls2, dd2, data2, sl2⟩, ho2, hc2, n2, hd2⟩ := id hb
  simp only at hc hd hc2 hd2
  subst hc hd hc2 hd2
  have ta : s.TypeIs (.ref l) "tuple" := ⟨_, ho, rfl⟩
  have tb : s.TypeIs (.ref b) "tuple" := ⟨_, ho2, rfl⟩
  exact wpAny_richCompare_same_room (op := .NotEq) ta tb F.slot_tuple_ne (call_meetsIn F.slot_tuple_ne ta F.entry_tuple_ne (F.args_tuple_ne_2 _ _) (own_tuple_neIn l b items items2 n n2 dd dd2 sl sl2 e)
    ⟨ho, ho2, he, show Value.bool (!((List.range (min items.size items2.size)).all e && items.size == items2.size)) ≠ Value.notImplemented ∧ Q (.bool (!((List.range (min items.size items2.size)).all e && items.size == items2.size))) s from ⟨(fun x => nomatch x), h⟩⟩) hu
end
end PySem.SeqAt
namespace Rf
open PySem L2 PySem.Spec PyProof.Rows
/-! ### a list, a tuple or a dict beside itself; tuples of the same data and of equal lists and dicts -/
def SelfO (K : PySem.W.Frag) (x y : V) (H : Hp) : Prop := x = y ∧ ∃ a, x = .ref a ∧ ((∃ xs, SqL K H a xs) ∨ (∃ xs, SqT K H a xs) ∨ ∃ kvs, H a = some (.dK kvs))
def EqTW (K : PySem.W.Frag) (x y : V) (H : Hp) : Prop := ∃ (a b : Addr) (xs ys : List V), x = .ref a ∧ y = .ref b ∧ SqT K H a xs ∧ SqT K H b ys ∧ Paired (EqW K H) xs ys
def rEqX (K : PySem.W.Frag) : R2 := fun x y H Q => (SelfO K x y H ∨ EqTW K x y H) ∧ Q (.bl true) H
/-- lists of the same data, of equal lists and dicts, of dicts with tuples as keys -/
def EqLD (K : PySem.W.Frag) (x y : V) (H : Hp) : Prop := ∃ (a b : Addr) (xs ys : List V), x = .ref a ∧ y = .ref b ∧ SqL K H a xs ∧ SqL K H b ys ∧ Paired (fun x y => EqW K H x y ∨ EqPr x y H) xs ys
def rNeX (K : PySem.W.Frag) : R2 := fun x y H Q => (SelfO K x y H ∨ EqTW K x y H ∨ EqLD K x y H) ∧ Q (.bl false) H
theorem hits_self {κ : Type} [DecidableEq κ] {A : Around} {s : Shared} {vb : List (κ × Value)} (nd : (vb.map (·.1)).Nodup) : W.KeqHits A s vb vb true := by
  have key : ∀ l : List (κ × Value), (∀ p ∈ l, p ∈ vb) → W.KeqHits A s vb l true := fun l => by
    induction l with
    | nil => exact fun _ => .nil
    | cons p l ih =>
      intro h
      obtain ⟨k, v⟩ := p
      obtain ⟨i, hi⟩ := List.getElem?_of_mem (h _ (List.mem_cons_self ..))
      exact .hit (e := true) (b := true) (valueAt_of_get nd hi) (SeqAt.EqAt.same _) (ih fun q hq => h q (List.mem_cons_of_mem _ hq))
  exact key vb fun _ h => h
theorem allT {n : Nat} : (List.range n).all (fun _ => true) = true := List.all_eq_true.mpr fun _ _ => rfl
theorem op_eqX {X : Cx} (hu : X.A.units + 64 < cLine) : OpR X (compareOp .Eq) (rEqX X.K) := by
  intro pins s σ H x y v u Q I rx ry h
  obtain ⟨h, q⟩ := h
  rcases h with ⟨rfl, a, rfl, h⟩ | ⟨a, b, xs, ys, rfl, rfl, ha, hb, hp⟩
  · cases (show v = Value.ref a from rx)
    cases (show u = Value.ref a from ry)
    rcases h with ⟨xs, hx⟩ | ⟨xs, hx⟩ | ⟨kvs, hx⟩
    · obtain ⟨us, r1, p1, _⟩ := I.list hx
      refine SeqAt.eq_listAt (e := fun _ => true) p1.isList p1.isList rfl (by omega) (fun j h1 h2 => SeqAt.EqAt.same _) ?_
      rw [allT]
      exact ⟨.bl true, H, I, rfl, q⟩
    · obtain ⟨us, r1, p1, _⟩ := I.tuple hx
      refine SeqAt.eq_tupleAt (e := fun _ => true) p1 p1 (by omega) (fun j h1 h2 => SeqAt.EqAt.same _) ?_
      rw [allT]
      exact ⟨.bl true, H, I, by simp; rfl, q⟩
    · obtain ⟨_, ya, va, ra, da⟩ := (show ObjOk X.prog X.w H s.heap a (.dK kvs) from I.hok a _ hx)
      obtain ⟨_, _, _, _, _, _, _, _, nd⟩ := id da
      exact PySem.W.keq_eq (knd := mixKind X.prog X.w) (r := true) ya ya da da (by omega) (fun _ => hits_self nd) ⟨.bl true, H, I, by simp; rfl, q⟩
  · cases (show v = Value.ref a from rx)
    cases (show u = Value.ref b from ry)
    obtain ⟨us, r1, p1, _⟩ := I.tuple ha
    obtain ⟨ws, r2, p2, _⟩ := I.tuple hb
    have hl : us.length = ws.length := by rw [← r1.length, ← r2.length, Paired.length hp]
    refine SeqAt.rcIn_tuples (e := fun _ => true) p1 p2 (by omega) (fun j h1 h2 => ?_) ?_
    · have k := items_run (fun x y v u f rx ry => eqW_run I X.A.in1 (by show X.A.units + 1 + 40 < cLine; omega) f rx ry) hp r1 r2 j (by simpa using h1) (by simpa using h2)
      have k2 : SeqAt.EqP X.prog X.w X.A.in1 s us.toArray[j] ws.toArray[j] true := by simpa using k
      exact k2
    · rw [allT, List.size_toArray, List.size_toArray, hl]
      exact ⟨.bl true, H, I, by simp; rfl, q⟩
theorem op_neX {X : Cx} (hu : X.A.units + 64 < cLine) : OpR X (compareOp .NotEq) (rNeX X.K) := by
  intro pins s σ H x y v u Q I rx ry h
  obtain ⟨h, q⟩ := h
  rcases h with ⟨rfl, a, rfl, h⟩ | ⟨a, b, xs, ys, rfl, rfl, ha, hb, hp⟩ | ⟨a, b, xs, ys, rfl, rfl, ha, hb, hp⟩
  · cases (show v = Value.ref a from rx)
    cases (show u = Value.ref a from ry)
    rcases h with ⟨xs, hx⟩ | ⟨xs, hx⟩ | ⟨kvs, hx⟩
    · obtain ⟨us, r1, p1, _⟩ := I.list hx
      refine SeqAt.RcNeAt.lists (e := fun _ => true) p1.isList p1.isList rfl (by omega) (fun j h1 h2 => SeqAt.EqAt.same _) _ _ _ _ ?_
      rw [allT]
      exact ⟨.bl false, H, I, rfl, q⟩
    · obtain ⟨us, r1, p1, _⟩ := I.tuple hx
      refine SeqAt.RcNeAt.tuples (e := fun _ => true) p1 p1 (by omega) (fun j h1 h2 => SeqAt.EqAt.same _) _ _ _ _ ?_
      rw [allT]
      exact ⟨.bl false, H, I, by simp; rfl, q⟩
    · obtain ⟨_, ya, va, ra, da⟩ := (show ObjOk X.prog X.w H s.heap a (.dK kvs) from I.hok a _ hx)
      obtain ⟨_, _, _, _, _, _, _, _, nd⟩ := id da
      exact PySem.W.keq_ne (knd := mixKind X.prog X.w) (r := true) ya ya da da (by omega) (fun _ => hits_self nd) ⟨.bl false, H, I, by simp; rfl, q⟩
  · cases (show v = Value.ref a from rx)
    cases (show u = Value.ref b from ry)
    obtain ⟨us, r1, p1, _⟩ := I.tuple ha
    obtain ⟨ws, r2, p2, _⟩ := I.tuple hb
    have hl : us.length = ws.length := by rw [← r1.length, ← r2.length, Paired.length hp]
    refine SeqAt.rcPNe_tuples (e := fun _ => true) p1 p2 (by omega) (fun j h1 h2 => ?_) _ _ ?_
    · have k := items_run (fun x y v u f rx ry => eqW_run I X.A.in1 (by show X.A.units + 1 + 40 < cLine; omega) f rx ry) hp r1 r2 j (by simpa using h1) (by simpa using h2)
      simpa using k
    · rw [allT, List.size_toArray, List.size_toArray, hl]
      exact ⟨.bl false, H, I, by simp; rfl, q⟩
  · cases (show v = Value.ref a from rx)
    cases (show u = Value.ref b from ry)
    obtain ⟨us, r1, p1, _⟩ := I.list ha
    obtain ⟨ws, r2, p2, _⟩ := I.list hb
    have hsz : us.toArray.size = ws.toArray.size := by
      rw [List.size_toArray, List.size_toArray, ← r1.length, ← r2.length]
      exact Paired.length hp
    refine SeqAt.rcPNe_lists (e := fun _ => true) p1.isList p2.isList hsz (by omega) (fun j h1 h2 => ?_) _ _ ?_
    · have k := items_run (fun x y v u f rx ry => f.elim (fun f => eqW_run I X.A.in1 (by show X.A.units + 1 + 40 < cLine; omega) f rx ry) fun f => eqPr_run I X.A.in1 (by show X.A.units + 1 + 4 < cLine; omega) f rx ry) hp r1 r2 j (by simpa using h1) (by simpa using h2)
      simpa using k
    · rw [allT]
      exact ⟨.bl false, H, I, rfl, q⟩
end Rf
namespace HT
open PySem PyProof.Rows PySem.SeqAt PySem.AutoSeq1
open AutoSeq1 (wpAny_loadPart')
theorem own_tuple_addW0 (l b : Addr) (items items2 : Array Value) (n n2 : Nat) (dd dd2 : Option Addr) (sl sl2 : Array (Option Value)) (h1 : items.isEmpty = true) :
    Meets (Builtin.«tuple.__add__» ⟨[.ref l, .ref b], []⟩)
      (fun _ R s => s.heap.get? l = some { cls := .type "tuple", dict := dd, data := .seq items n, slots := sl } ∧ s.heap.get? b = some { cls := .type "tuple", dict := dd2, data := .seq items2 n2, slots := sl2 } ∧ R (.ok (.ret (.ref b))) s) :=
  .of_wp fun prog w A R s h => by
    obtain ⟨hp, g, d, tk, os⟩ := s; obtain ⟨hl, hb, h⟩ := h
    have f2 := AutoSeq1.sub_tuple_tuple
    wp_walk using wpAny_loadPart' hl, wpAny_loadPart' hb
    exact ⟨_, rfl, h⟩
section
variable {prog : Program} {w : World} {A : Around} {E : Value → Shared → Prop} {s : Shared}
theorem own_cat_tup0 {t b : Addr} {ws : List Value} {Q : Value → Shared → Prop} (ht : IsTup s.heap t #[]) (hb : IsTup s.heap b ws.toArray) (h : Q (.ref b) s) : wpAny (model prog w) A (binaryOp .Add (.ref t) (.ref b)) Q E s := by
  obtain ⟨⟨cls, dd, data, sl⟩, ho, hc, n, hd⟩ := id ht
  obtain ⟨⟨cls2, dd2, data2, sl2⟩, ho2, hc2, n2, hd2⟩ := id hb
  simp only at hc hd hc2 hd2
  subst hc hd hc2 hd2
  exact concat_meets ⟨_, ho, rfl⟩ ⟨_, ho2, rfl⟩ noFill_tuple_add seq_tuple_add PySem.F.slot_tuple_add PySem.F.entry_tuple_add (PySem.F.args_tuple_add_2 _ _)
      (own_tuple_addW0 t b #[] ws.toArray n n2 dd dd2 sl sl2 rfl) ⟨ho, ho2, h⟩
end
end HT
namespace Rf
open PySem L2 PySem.Spec PyProof.Rows
/-- () + t: t itself -/
def rCatT0 (K : PySem.W.Frag) : R2 := fun x y H Q => ∃ a b ys, x = .ref a ∧ y = .ref b ∧ SqT K H a [] ∧ SqT K H b ys ∧ Q (.ref b) H
theorem op_catT0 {X : Cx} : OpR X (binaryOp .Add) (rCatT0 X.K) := by
  intro pins s σ H x y v u Q I rx ry h
  obtain ⟨a, b, ys, rfl, rfl, ha, hb, q⟩ := h
  cases rx
  cases ry
  obtain ⟨its, r1, p1, _⟩ := I.tuple ha
  obtain ⟨its2, r2, p2, _⟩ := I.tuple hb
  cases r1
  exact HT.own_cat_tup0 p1 p2 ⟨.ref b, H, I, rfl, q⟩
end Rf
/-! A body's reading computed from its syntax, once for all: cE, cT, cA, cS, cSs, and that they are right. -/
namespace Rf
open PySem L2 PySem.Spec PyProof.Rows

/-! ### syntax that asks nothing more -/
def noStar : Expr → Bool
  | .Starred .. => false
  | _ => true
theorem star_cons {e : Expr} {es : List Expr} {env : Env} (h : noStar e = true) : starEach (e :: es) env = (false, eval e env) :: starEach es env := by
  cases e <;> first | rfl | cases h
theorem star_none {pos : Pos} {env : Env} : ∀ {es : List Expr}, es.all noStar = true → (backTo pos (starEach es env)).any (·.1) = false
  | [], _ => rfl
  | e :: es, h => by
    obtain ⟨h1, h2⟩ := Bool.and_eq_true_iff.mp (show (noStar e && es.all noStar) = true from h)
    rw [star_cons h1]
    show (false || (backTo pos (starEach es env)).any (·.1)) = false
    rw [star_none h2]
    rfl
def noComp : Expr → Bool
  | .ListComp .. => false
  | .SetComp .. => false
  | .DictComp .. => false
  | _ => true
theorem swaps_no {e : Expr} {t : Option Expr} {l : Nat} {env : Env} (h : noComp e = true) : swapsWith e t l env = pure false := by
  cases e <;> first | rfl | cases h
def noSup : Expr → Bool
  | .Call (.Name id _) [] [] _ => id != "super"
  | _ => true
theorem base_no {o : Expr} {a : Str} {env : Env} {w : Sem Value} (h : noSup o = true) : attributeBase o a env w = w := by
  unfold attributeBase
  split
  · have h' : (_ != _) = true := h
    rw [h']
    rfl
  · rfl
def noSlice : Expr → Bool
  | .Slice .. => false
  | _ => true
theorem ix_no {b : Expr} (h : noSlice b = true) : ∀ o i, subscripted b false o i = operate [o, i] (getItem o i) := fun o i => by
  cases b <;> first | rfl | cases h
def noSet : Expr → Bool
  | .Set .. => false
  | _ => true
theorem mark_no {op : CmpOp} {b : Expr} (h : noSet b = true) : behindInMarks op b = false := by
  cases b <;> first | rfl | cases h
theorem fold_no {i : Expr} {env : Env} (h : noSet i = true) : ∀ x, foldedSetIterable i env x = pure x := fun x => by
  cases i <;> first | rfl | cases h
def noBool : Expr → Bool
  | .UnaryOp .. => false
  | .BoolOp .. => false
  | .IfExp .. => false
  | .Compare .. => false
  | _ => true
theorem true_no {a : Expr} {env : Env} (h : noBool a = true) : ∀ whole, isTrue a env whole = (do let v ← whole; standAt a.pos; holding [v] (truthy v)) := fun w => by
  cases a <;> first | rfl | cases h

/-! ### rules for one operation, several kinds -/
theorem callOr {X : Cx} {f : Value} {r r' : List V → Hp → VK → Prop} (h : CallR X f r) (h' : CallR X f r') : CallR X f (fun x H Q => r x H Q ∨ r' x H Q) := by
  intro pins s σ H xs us Q I rx q
  rcases q with q | q
  · exact h pins s σ H xs us Q I rx q
  · exact h' pins s σ H xs us Q I rx q
theorem psOr {X : Cx} {st : Stmt} {t u : TS} (h : PS X st t) (h' : PS X st u) : PS X st (fun D σ H => t D σ H ∨ u D σ H) := ⟨fun pins s σ H D I q => q.elim (h.run pins s σ H D I) (h'.run pins s σ H D I)⟩
theorem peOr {X : Cx} {e : Expr} {t u : TE} (h : PE X e t) (h' : PE X e u) : PE X e (fun σ H Q => t σ H Q ∨ u σ H Q) := ⟨fun pins s σ H Q I q => q.elim (h.run pins s σ H Q I) (h'.run pins s σ H Q I)⟩
theorem piOr {X : Cx} {tg e : Expr} {t u : TI} (h : PI X tg e t) (h' : PI X tg e u) : PI X tg e (fun σ H Q => t σ H Q ∨ u σ H Q) := ⟨fun pins s σ H Q I q => q.elim (h.run pins s σ H Q I) (h'.run pins s σ H Q I)⟩

/-- the one or the other, by a truth -/
@[irreducible] def cnd (b : Bool) (A B : Prop) : Prop := match b with
  | true => A
  | false => B
theorem cnd_t {A B : Prop} : cnd true A B = A := by unfold cnd; rfl
theorem cnd_f {A B : Prop} : cnd false A B = B := by unfold cnd; rfl
theorem of_t {A B : Prop} (h : cnd true A B) : A := by rw [cnd_t] at h; exact h
theorem of_f {A B : Prop} (h : cnd false A B) : B := by rw [cnd_f] at h; exact h
theorem cndT {b : Bool} {A B : Prop} (e : b = true) (h : A) : cnd b A B := by rw [e, cnd_t]; exact h
theorem cndF {b : Bool} {A B : Prop} (e : b = false) (h : B) : cnd b A B := by rw [e, cnd_f]; exact h
theorem cndB {b : Bool} {A B : Prop} (h1 : b = true → A) (h2 : b = false → B) : cnd b A B := by
  cases b with
  | true => rw [cnd_t]; exact h1 rfl
  | false => rw [cnd_f]; exact h2 rfl
theorem cndD {p : Prop} {_ : Decidable p} {A B : Prop} (h1 : p → A) (h2 : ¬ p → B) : cnd (decide p) A B := cndB (fun h => h1 (of_decide_eq_true h)) (fun h => h2 (of_decide_eq_false h))
theorem cndN {p : Prop} {_ : Decidable p} {A B : Prop} (h1 : ¬ p → A) (h2 : p → B) : cnd (!decide p) A B := cndB (fun h => h1 (by simpa using h)) (fun h => h2 (by simpa using h))
section
variable {X : Cx} {a b c : Expr} {ta tb tc : TE} {t u : TT} {pos : Pos}
def uIf (c : TT) (t u : TS) : TS := fun D σ H => c σ H fun b H1 => cnd b (t D σ H1) (u D σ H1)
theorem ps_ifU {c : Expr} {a b : List Stmt} {tc : TT} {t u : TS} (hc : PT X c tc) (ha : PSs X a t) (hb : PSs X b u) : PS X (.If c a b pos) (uIf tc t u) := by
  refine ⟨fun pins s σ H D I h => ?_⟩
  refine wpAny_If (thn (hc.run pins s σ H _ I h) fun d s1 ⟨H1, I1, q1⟩ => ?_)
  cases d with
  | true => exact ha.run pins s1 σ H1 D I1 (of_t q1)
  | false => exact hb.run pins s1 σ H1 D I1 (of_f q1)
def uIfE (t : TT) (ta tb : TE) : TE := fun σ H Q => t σ H fun c H1 => cnd c (ta σ H1 Q) (tb σ H1 Q)
theorem pe_ifU (hc : PT X c t) (ha : PE X a ta) (hb : PE X b tb) : PE X (.IfExp c a b pos) (uIfE t ta tb) := by
  refine ⟨fun pins s σ H Q I h => ?_⟩
  refine wpAny_IfExp (thn (hc.run pins s σ H _ I h) fun d s1 ⟨H1, I1, q1⟩ => ?_)
  cases d with
  | true => exact ha.run pins s1 σ H1 Q I1 (of_t q1)
  | false => exact hb.run pins s1 σ H1 Q I1 (of_f q1)
def uAnd (t u : TT) : TT := fun σ H Q => t σ H fun c H1 => cnd c (u σ H1 Q) (Q false H1)
def uOr (t u : TT) : TT := fun σ H Q => t σ H fun c H1 => cnd c (Q true H1) (u σ H1 Q)
theorem pw_andU {rest : List Expr} (ha : PT X a t) (hb : PW X (.BoolOp .And (b :: rest) pos) u) : PW X (.BoolOp .And (a :: b :: rest) pos) (uAnd t u) := by
  refine ⟨fun wh pins s σ H Q I h => ?_⟩
  refine isTrue_and (thn (ha.run pins s σ H _ I h) fun c s1 ⟨H1, I1, q1⟩ => ?_)
  cases c with
  | true => exact hb.run wh pins s1 σ H1 Q I1 (of_t q1)
  | false => exact ⟨H1, I1, of_f q1⟩
theorem pw_orU {rest : List Expr} (ha : PT X a t) (hb : PW X (.BoolOp .Or (b :: rest) pos) u) : PW X (.BoolOp .Or (a :: b :: rest) pos) (uOr t u) := by
  refine ⟨fun wh pins s σ H Q I h => ?_⟩
  refine isTrue_or (thn (ha.run pins s σ H _ I h) fun c s1 ⟨H1, I1, q1⟩ => ?_)
  cases c with
  | true => exact ⟨H1, I1, of_t q1⟩
  | false => exact hb.run wh pins s1 σ H1 Q I1 (of_f q1)
end
/-- binary operators, by the values' kinds -/
def rAddU (K : PySem.W.Frag) : R2 := fun x y H Q => match x, y with
  | .int i, .int j => Q (.int (i + j)) H
  | .str i, .str j => i.length + j.length ≤ sizeLine ∧ Q (.str (i ++ j)) H
  | x, y => rCat x y H Q ∨ rCatT K x y H Q ∨ rCatT0 K x y H Q
def rSubU : R2 := fun x y H Q => match x, y with
  | .int i, .int j => Q (.int (i - j)) H
  | _, _ => False
/-- a small factor, or both not too great -/
def CMulU (i j : Int) : Prop := CMul i j ∨ CMulW i j
theorem op_mulS {X : Cx} : OpR X (binaryOp .Mult) (fun x y H Q => ∃ z n, x = .str z ∧ y = .int n ∧ MulOk z n ∧ Q (.str (Txt.mul z n)) H) := by
  intro pins s σ H x y v u Q I rx ry h
  obtain ⟨i, j, rfl, rfl, hz, q⟩ := h
  obtain ⟨t, rfl⟩ := rx
  obtain ⟨t', rfl⟩ := ry
  exact SB.mul hz (fun t' tk => ⟨.str (Txt.mul i j), H, I.tok _, ⟨_, rfl⟩, q⟩)
def rMulU : R2 := fun x y H Q => match x, y with
  | .int i, .int j => CMulU i j ∧ Q (.int (i * j)) H
  | .str z, .int n => MulOk z n ∧ Q (.str (Txt.mul z n)) H
  | x, y => rRep x y H Q
def rDivU : R2 := fun x y H Q => match x, y with
  | .int i, .int j => CDivW i j ∧ Q (.int (i / j)) H
  | _, _ => False
def rModU : R2 := fun x y H Q => match x, y with
  | .int i, .int j => 0 < j ∧ Q (.int (i % j)) H
  | _, _ => False
def rPowU : R2 := fun x y H Q => match x, y with
  | .int i, .int j => CPow i j ∧ Q (.int (i ^ j.toNat)) H
  | _, _ => False
def rBin (K : PySem.W.Frag) : Operator → Option R2
  | .Add => some (rAddU K)
  | .Sub => some rSubU
  | .Mult => some rMulU
  | .FloorDiv => some rDivU
  | .Mod => some rModU
  | .Pow => some rPowU
  | _ => none
theorem opMono {X : Cx} {f : Value → Value → Sem Value} {r r' : R2} (h : OpR X f r) (i : ∀ x y H Q, r' x y H Q → r x y H Q) : OpR X f r' := fun pins s σ H x y v u Q I rx ry q => h pins s σ H x y v u Q I rx ry (i x y H Q q)
/-- two ints, or another rule -/
theorem int2 {P : V → V → Prop} {x y : V} (h1 : ∀ i j, P (.int i) (.int j)) (h2 : (∀ i j, ¬ (x = .int i ∧ y = .int j)) → P x y) : P x y := by
  by_cases h : ∃ i j, x = .int i ∧ y = .int j
  · obtain ⟨i, j, rfl, rfl⟩ := h
    exact h1 i j
  · exact h2 fun i j e => h ⟨i, j, e⟩
theorem rBin_ok {X : Cx} {op : Operator} {r : R2} (h : rBin X.K op = some r) : OpR X (binaryOp op) r := by
  cases op <;> first | cases h | (have e := Option.some.inj h; subst e)
  · refine opMono (op_add.or (op_add_str.or (op_cat.or (op_catT.or op_catT0)))) fun x y H Q q => ?_
    unfold rAddU at q
    split at q
    · exact .inl ⟨_, _, rfl, rfl, q⟩
    · exact .inr (.inl ⟨_, _, rfl, rfl, q.1, q.2⟩)
    · exact .inr (.inr q)
  · refine opMono op_sub fun x y H Q q => ?_
    unfold rSubU at q
    split at q
    · exact ⟨_, _, rfl, rfl, q⟩
    · exact q.elim
  · refine opMono (op_mul.or (op_mulW.or (op_mulS.or op_rep))) fun x y H Q q => ?_
    unfold rMulU at q
    split at q
    · rcases q.1 with c | c
      · exact .inl ⟨_, _, rfl, rfl, c, q.2⟩
      · exact .inr (.inl ⟨_, _, rfl, rfl, c, q.2⟩)
    · exact .inr (.inr (.inl ⟨_, _, rfl, rfl, q⟩))
    · exact .inr (.inr (.inr q))
  · refine opMono op_mod fun x y H Q q => ?_
    unfold rModU at q
    split at q
    · exact ⟨_, _, rfl, rfl, q.1, q.2⟩
    · exact q.elim
  · refine opMono op_pow fun x y H Q q => ?_
    unfold rPowU at q
    split at q
    · exact ⟨_, _, rfl, rfl, q.1, q.2⟩
    · exact q.elim
  · refine opMono op_fdivW fun x y H Q q => ?_
    unfold rDivU at q
    split at q
    · exact ⟨_, _, rfl, rfl, q.1, q.2⟩
    · exact q.elim
/-- in place -/
def rIAddU : R2 := fun x y H Q => match x, y with
  | .int i, .int j => Q (.int (i + j)) H
  | .str i, .str j => i.length + j.length ≤ sizeLine ∧ Q (.str (i ++ j)) H
  | _, _ => False
def rAug (K : PySem.W.Frag) : Operator → Option R2
  | .Add => some rIAddU
  | .Sub => some rSubU
  | _ => none
theorem rAug_ok {X : Cx} {op : Operator} {r : R2} (h : rAug X.K op = some r) : OpR X (inplaceOp op) r := by
  cases op <;> first | cases h | (have e := Option.some.inj h; subst e)
  · refine opMono (iop_add.or iop_add_str) fun x y H Q q => ?_
    unfold rIAddU at q
    split at q
    · exact .inl ⟨_, _, rfl, rfl, q⟩
    · exact .inr ⟨_, _, rfl, rfl, q.1, q.2⟩
    · exact q.elim
  · refine opMono iop_sub fun x y H Q q => ?_
    unfold rSubU at q
    split at q
    · exact ⟨_, _, rfl, rfl, q⟩
    · exact q.elim
/-! comparisons -/
/-- two dicts: of unlike sizes, or the one's entries the other's -/
def DSame (x y : V) (H : Hp) (r : Bool) : Prop := ∃ a b ks ls, x = .ref a ∧ y = .ref b ∧ H a = some (.dK ks) ∧ H b = some (.dK ls) ∧ ((ks.length ≠ ls.length ∧ r = false) ∨ (ks.length = ls.length ∧ (∀ p ∈ ks, valV ls p.1 = some p.2 ∧ flatB p.2 = true) ∧ r = true))
theorem hits_ints {κ : Type} [DecidableEq κ] {A : Around} {s : Shared} {kvs : List (κ × V)} {vb : List (κ × Value)} (rb : KV kvs vb) {ks : List (κ × V)} {va : List (κ × Value)} (ra : KV ks va) (h : ∀ p ∈ ks, ∃ i j, p.2 = V.int i ∧ valV kvs p.1 = some (V.int j)) : W.KeqHits A s vb va (ks.all fun p => decide (valV kvs p.1 = some p.2)) := by
  induction ra with
  | nil => exact .nil
  | cons r _ ih =>
    rename_i p q ps qs _
    obtain ⟨k, v⟩ := p
    obtain ⟨k', v'⟩ := q
    obtain ⟨h1, h2⟩ := r
    obtain ⟨i, j, e, f⟩ := h _ (List.mem_cons_self ..)
    have h1' : k = k' := h1
    have e' : v = .int i := e
    have f' : valV kvs k = some (.int j) := f
    subst h1' e'
    have rr := KV.val rb k
    rw [f'] at rr
    obtain ⟨y, hy, ry⟩ := RelO.some_of rr
    obtain ⟨tj, rfl⟩ : ∃ t, y = Value.int j t := ry
    obtain ⟨ti, rfl⟩ : ∃ t, v' = Value.int i t := h2
    have ei : decide (valV kvs k = some (V.int i)) = (i == j) := by
      rw [f']
      by_cases c : i = j
      · rw [c]; simp
      · have : ¬ (some (V.int j) = some (V.int i)) := fun z => c (by cases z; rfl)
        rw [decide_eq_false this]
        exact (beq_eq_false_iff_ne.mpr c).symm
    rw [List.all_cons]
    show W.KeqHits A s vb _ (decide (valV kvs k = some (V.int i)) && _)
    rw [ei]
    exact .hit hy (SeqAt.EqAt.int_int _ _ _ _) (ih fun p hp => h p (List.mem_cons_of_mem _ hp))
/-- two dicts of the same size, of ints -/
def DNums (x y : V) (H : Hp) (r : Bool) : Prop := ∃ a b ks ls, x = .ref a ∧ y = .ref b ∧ H a = some (.dK ks) ∧ H b = some (.dK ls) ∧ ks.length = ls.length ∧ (∀ p ∈ ks, ∃ i j, p.2 = V.int i ∧ valV ls p.1 = some (V.int j)) ∧ r = ks.all fun p => decide (valV ls p.1 = some p.2)
def DEqs (x y : V) (H : Hp) (r : Bool) : Prop := DSame x y H r ∨ DNums x y H r
theorem op_eq_dictU {X : Cx} (hu : X.A.units < cLine) : OpR X (compareOp .Eq) (fun x y H Q => ∃ r, DEqs x y H r ∧ Q (.bl r) H) := by
  intro pins s σ H x y v u Q I rx ry h
  obtain ⟨r, h | h, q⟩ := h
  rotate_left
  · obtain ⟨a, b, ks, ls, rfl, rfl, ea, eb, hlen, hp, rfl⟩ := h
    obtain rfl : v = Value.ref a := rx
    obtain rfl : u = Value.ref b := ry
    obtain ⟨_, ya, va, ra, da⟩ := (show ObjOk X.prog X.w H s.heap a (.dK ks) from I.hok a _ ea)
    obtain ⟨_, yb, vb, rb, db⟩ := (show ObjOk X.prog X.w H s.heap b (.dK ls) from I.hok b _ eb)
    have hl : va.length = vb.length := by rw [← ra.length, ← rb.length]; exact hlen
    exact PySem.W.keq_eq (knd := mixKind X.prog X.w) ya yb da db hu (fun _ => hits_ints rb ra hp) (fin_bl I q (by simp [hl]))
  obtain ⟨a, b, ks, ls, rfl, rfl, ea, eb, h⟩ := h
  obtain rfl : v = Value.ref a := rx
  obtain rfl : u = Value.ref b := ry
  obtain ⟨_, ya, va, ra, da⟩ := (show ObjOk X.prog X.w H s.heap a (.dK ks) from I.hok a _ ea)
  obtain ⟨_, yb, vb, rb, db⟩ := (show ObjOk X.prog X.w H s.heap b (.dK ls) from I.hok b _ eb)
  rcases h with ⟨hlen, rfl⟩ | ⟨hlen, hp, rfl⟩
  · have hl : va.length ≠ vb.length := by rw [← ra.length, ← rb.length]; exact hlen
    exact PySem.W.keq_eq (knd := mixKind X.prog X.w) (r := true) ya yb da db hu (fun z => absurd z hl) (fin_bl I q (by simp [hl]))
  · have hl : va.length = vb.length := by rw [← ra.length, ← rb.length]; exact hlen
    exact PySem.W.keq_eq (knd := mixKind X.prog X.w) (r := true) ya yb da db hu (fun _ => hits_all rb ra hp) (fin_bl I q (by simp [hl]))
theorem op_ne_dictU {X : Cx} (hu : X.A.units < cLine) : OpR X (compareOp .NotEq) (fun x y H Q => ∃ r, DEqs x y H r ∧ Q (.bl (!r)) H) := by
  intro pins s σ H x y v u Q I rx ry h
  obtain ⟨r, h | h, q⟩ := h
  rotate_left
  · obtain ⟨a, b, ks, ls, rfl, rfl, ea, eb, hlen, hp, rfl⟩ := h
    obtain rfl : v = Value.ref a := rx
    obtain rfl : u = Value.ref b := ry
    obtain ⟨_, ya, va, ra, da⟩ := (show ObjOk X.prog X.w H s.heap a (.dK ks) from I.hok a _ ea)
    obtain ⟨_, yb, vb, rb, db⟩ := (show ObjOk X.prog X.w H s.heap b (.dK ls) from I.hok b _ eb)
    have hl : va.length = vb.length := by rw [← ra.length, ← rb.length]; exact hlen
    exact PySem.W.keq_ne (knd := mixKind X.prog X.w) ya yb da db hu (fun _ => hits_ints rb ra hp) (fin_bl I q (by simp [hl]))
  obtain ⟨a, b, ks, ls, rfl, rfl, ea, eb, h⟩ := h
  obtain rfl : v = Value.ref a := rx
  obtain rfl : u = Value.ref b := ry
  obtain ⟨_, ya, va, ra, da⟩ := (show ObjOk X.prog X.w H s.heap a (.dK ks) from I.hok a _ ea)
  obtain ⟨_, yb, vb, rb, db⟩ := (show ObjOk X.prog X.w H s.heap b (.dK ls) from I.hok b _ eb)
  rcases h with ⟨hlen, rfl⟩ | ⟨hlen, hp, rfl⟩
  · have hl : va.length ≠ vb.length := by rw [← ra.length, ← rb.length]; exact hlen
    exact PySem.W.keq_ne (knd := mixKind X.prog X.w) (r := true) ya yb da db hu (fun z => absurd z hl) (fin_bl I q (by simp [hl]))
  · have hl : va.length = vb.length := by rw [← ra.length, ← rb.length]; exact hlen
    exact PySem.W.keq_ne (knd := mixKind X.prog X.w) (r := true) ya yb da db hu (fun _ => hits_all rb ra hp) (fin_bl I q (by simp [hl]))
/-- two tuples of the very same things -/
def okI : V → Bool
  | .non => true
  | .bl _ => true
  | .int _ => true
  | .str _ => true
  | .ref _ => true
  | _ => false
def IdT (K : PySem.W.Frag) (x y : V) (H : Hp) : Prop := ∃ a b xs, x = .ref a ∧ y = .ref b ∧ SqT K H a xs ∧ SqT K H b xs ∧ xs.all okI = true
theorem eqAtV {A : Around} {s : Shared} {v : V} {u w : Value} (h1 : RelV v u) (h2 : RelV v w) (ok : okI v = true) : SeqAt.EqAt A s u w true := by
  cases v <;> first | cases ok | skip
  · cases h1; cases h2; exact SeqAt.EqAt.same _
  · cases h1; cases h2; exact SeqAt.EqAt.same _
  · rename_i i
    obtain ⟨t, rfl⟩ := h1
    obtain ⟨t', rfl⟩ := h2
    have := SeqAt.EqAt.int_int (A := A) (s := s) i t i t'
    rwa [beq_self_eq_true] at this
  · rename_i x
    obtain ⟨t, rfl⟩ := h1
    obtain ⟨t', rfl⟩ := h2
    have := SeqAt.EqAt.str_str (A := A) (s := s) x t x t'
    rwa [beq_self_eq_true] at this
  · cases h1; cases h2; exact SeqAt.EqAt.same _
theorem idT_at {X : Cx} {pins : List (Addr × Obj)} {σ : L2.St} {H : Hp} {s : Shared} {x y : V} {v u : Value} (I : Inv X pins σ H s) (rx : RelV x v) (ry : RelV y u) (h : IdT X.K x y H) : ∃ (a b : Addr) (its its2 : List Value), v = .ref a ∧ u = .ref b ∧ IsTup s.heap a its.toArray ∧ IsTup s.heap b its2.toArray ∧ its.length = its2.length ∧
    ∀ (A : Around) j (h1 : j < its.toArray.size) (h2 : j < its2.toArray.size), SeqAt.EqAt A s its.toArray[j] its2.toArray[j] true := by
  obtain ⟨a, b, xs, rfl, rfl, ha, hb, ok⟩ := h
  cases rx
  cases ry
  obtain ⟨its, r1, p1, _⟩ := I.tuple ha
  obtain ⟨its2, r2, p2, _⟩ := I.tuple hb
  refine ⟨a, b, its, its2, rfl, rfl, p1, p2, r1.length.symm.trans r2.length, fun A j h1 h2 => ?_⟩
  have hj : j < xs.length := by rw [r1.length]; simpa using h1
  obtain ⟨u1, e1, q1⟩ := r1.get (List.getElem?_eq_getElem hj)
  obtain ⟨u2, e2, q2⟩ := r2.get (List.getElem?_eq_getElem hj)
  have f1 : its.toArray[j] = u1 := by
    have : its[j]? = some its.toArray[j] := by rw [List.getElem?_eq_getElem (by simpa using h1)]; rfl
    rw [e1] at this
    exact (Option.some.inj this).symm
  have f2 : its2.toArray[j] = u2 := by
    have : its2[j]? = some its2.toArray[j] := by rw [List.getElem?_eq_getElem (by simpa using h2)]; rfl
    rw [e2] at this
    exact (Option.some.inj this).symm
  rw [f1, f2]
  exact eqAtV q1 q2 (List.all_eq_true.mp ok _ (List.getElem_mem hj))
theorem all_true {n : Nat} : (List.range n).all (fun _ => true) = true := by
  rw [List.all_eq_true]
  intro _ _
  rfl
theorem op_eqI {X : Cx} (hu : X.A.units < cLine) : OpR X (compareOp .Eq) (fun x y H Q => IdT X.K x y H ∧ Q (.bl true) H) := by
  intro pins s σ H x y v u Q I rx ry h
  obtain ⟨a, b, its, its2, rfl, rfl, p1, p2, hl, he⟩ := idT_at I rx ry h.1
  refine SeqAt.eq_tupleAt (e := fun _ => true) p1 p2 hu (fun j h1 h2 => he _ j h1 h2) ?_
  rw [all_true, List.size_toArray, List.size_toArray, hl]
  exact ⟨.bl true, H, I, by simp; rfl, h.2⟩
theorem op_neI {X : Cx} (hu : X.A.units < cLine) : OpR X (compareOp .NotEq) (fun x y H Q => IdT X.K x y H ∧ Q (.bl false) H) := by
  intro pins s σ H x y v u Q I rx ry h
  obtain ⟨a, b, its, its2, rfl, rfl, p1, p2, hl, he⟩ := idT_at I rx ry h.1
  refine SeqAt.RcNeAt.tuples (e := fun _ => true) p1 p2 hu (fun j h1 h2 => he _ j h1 h2) _ _ _ _ ?_
  rw [all_true, List.size_toArray, List.size_toArray, hl]
  exact ⟨.bl false, H, I, by simp; rfl, h.2⟩
/-- a tuple beside the empty one -/
def rEqEm (K : PySem.W.Frag) : R2 := fun x y H Q => ∃ (a b : Addr) (xs : List V), x = .ref a ∧ y = .ref b ∧ SqT K H a xs ∧ SqT K H b [] ∧ xs ≠ [] ∧ Q (.bl false) H
theorem op_eqEm {X : Cx} (hu : X.A.units < cLine) : OpR X (compareOp .Eq) (rEqEm X.K) := by
  intro pins s σ H x y v u Q I rx ry h
  obtain ⟨a, b, xs, rfl, rfl, ha, hb, ne, q⟩ := h
  cases rx
  cases ry
  obtain ⟨its, r1, p1, _⟩ := I.tuple ha
  obtain ⟨its2, r2, p2, _⟩ := I.tuple hb
  have l2 : its2.length = 0 := r2.length.symm
  have l1 : its.length ≠ 0 := by
    rw [← r1.length]
    exact fun z => ne (List.length_eq_zero_iff.mp z)
  refine SeqAt.eq_tupleAt (e := fun _ => true) p1 p2 hu (fun j h1 h2 => by rw [List.size_toArray, l2] at h2; omega) ?_
  rw [all_true, List.size_toArray, List.size_toArray, l2]
  have e0 : (its.length == 0) = false := by simpa using l1
  rw [e0, Bool.and_false]
  exact ⟨.bl false, H, I, rfl, q⟩
/-- two tuples of the very same things, or of such tuples -/
def ItN (K : PySem.W.Frag) (H : Hp) (u v : V) : Prop := (u = v ∧ okI u = true) ∨ IdT K u v H
def rEqN (K : PySem.W.Frag) : R2 := fun x y H Q => ∃ (a b : Addr) (xs ys : List V), x = .ref a ∧ y = .ref b ∧ SqT K H a xs ∧ SqT K H b ys ∧ Paired (ItN K H) xs ys ∧ Q (.bl true) H
def rNeN (K : PySem.W.Frag) : R2 := fun x y H Q => ∃ (a b : Addr) (xs ys : List V), x = .ref a ∧ y = .ref b ∧ SqT K H a xs ∧ SqT K H b ys ∧ Paired (ItN K H) xs ys ∧ Q (.bl false) H
theorem itN_at {X : Cx} {pins : List (Addr × Obj)} {σ : L2.St} {H : Hp} {s : Shared} {x y : V} {v u : Value} (I : Inv X pins σ H s) {A : Around} (hu : A.units + 1 < cLine) (rx : RelV x v) (ry : RelV y u) (h : ItN X.K H x y) : SeqAt.EqAt A s v u true := by
  rcases h with ⟨rfl, ok⟩ | h
  · exact eqAtV rx ry ok
  · obtain ⟨a, b, its, its2, rfl, rfl, ⟨o1, p1, p2, n1, p3⟩, ⟨o2, q1, q2, n2, q3⟩, hl, he⟩ := idT_at I rx ry h
    by_cases c : a = b
    · subst c
      exact SeqAt.EqAt.same _
    · have k := SeqAt.EqAt.of_refs c (SeqAt.RcAt.tuples (e := fun _ => true) (A := A) (s := s) ⟨o1, p1, p2, n1, p3⟩ ⟨o2, q1, q2, n2, q3⟩ (by omega) fun j h1 h2 => he A.in1 j h1 h2)
      rw [all_true, List.size_toArray, List.size_toArray, hl] at k
      simpa using k
theorem itN_items {X : Cx} {pins : List (Addr × Obj)} {σ : L2.St} {H : Hp} {s : Shared} (I : Inv X pins σ H s) {A : Around} (hu : A.units + 1 < cLine) : ∀ {xs ys : List V} {us ws : List Value}, Paired (ItN X.K H) xs ys → Vals xs us → Vals ys ws → ∀ j (h1 : j < us.toArray.size) (h2 : j < ws.toArray.size), SeqAt.EqAt A s us.toArray[j] ws.toArray[j] true
  | _, _, _, _, .nil, r1, r2, j, h1, h2 => by cases r1; exact absurd h1 (Nat.not_lt_zero _)
  | _, _, _, _, .cons h t, r1, r2, j, h1, h2 => by
    cases r1 with
    | cons a1 b1 => cases r2 with
      | cons a2 b2 => cases j with
        | zero => exact itN_at I hu a1 a2 h
        | succ j =>
          have := itN_items I hu t b1 b2 j (by simpa using h1) (by simpa using h2)
          simpa using this
theorem op_eqN {X : Cx} (hu : X.A.units + 4 < cLine) : OpR X (compareOp .Eq) (rEqN X.K) := by
  intro pins s σ H x y v u Q I rx ry h
  obtain ⟨a, b, xs, ys, rfl, rfl, ha, hb, hp, q⟩ := h
  cases rx
  cases ry
  obtain ⟨its, r1, p1, _⟩ := I.tuple ha
  obtain ⟨its2, r2, p2, _⟩ := I.tuple hb
  have hl : its.length = its2.length := by rw [← r1.length, ← r2.length, Paired.length hp]
  refine SeqAt.eq_tupleAt (e := fun _ => true) p1 p2 (by omega) (fun j h1 h2 => itN_items I (show X.A.in1.units + 1 < cLine by show X.A.units + 1 + 1 < cLine; omega) hp r1 r2 j h1 h2) ?_
  rw [all_true, List.size_toArray, List.size_toArray, hl]
  exact ⟨.bl true, H, I, by simp; rfl, q⟩
theorem op_neN {X : Cx} (hu : X.A.units + 4 < cLine) : OpR X (compareOp .NotEq) (rNeN X.K) := by
  intro pins s σ H x y v u Q I rx ry h
  obtain ⟨a, b, xs, ys, rfl, rfl, ha, hb, hp, q⟩ := h
  cases rx
  cases ry
  obtain ⟨its, r1, p1, _⟩ := I.tuple ha
  obtain ⟨its2, r2, p2, _⟩ := I.tuple hb
  have hl : its.length = its2.length := by rw [← r1.length, ← r2.length, Paired.length hp]
  refine SeqAt.RcNeAt.tuples (e := fun _ => true) p1 p2 (by omega) (fun j h1 h2 => itN_items I (show X.A.in1.units + 1 < cLine by show X.A.units + 1 + 1 < cLine; omega) hp r1 r2 j h1 h2) _ _ _ _ ?_
  rw [all_true, List.size_toArray, List.size_toArray, hl]
  exact ⟨.bl false, H, I, by simp; rfl, q⟩
/-- two lists: of unlike lengths, or of the very same things, or of tuples of such -/
def EqLE (K : PySem.W.Frag) (x y : V) (H : Hp) (r : Bool) : Prop := ∃ (a b : Addr) (xs ys : List V), x = .ref a ∧ y = .ref b ∧ SqL K H a xs ∧ SqL K H b ys ∧ ((xs.length ≠ ys.length ∧ r = false) ∨ (Paired (ItN K H) xs ys ∧ r = true))
def rEqLE (K : PySem.W.Frag) : R2 := fun x y H Q => ∃ r, EqLE K x y H r ∧ Q (.bl r) H
def rNeLE (K : PySem.W.Frag) : R2 := fun x y H Q => ∃ r, EqLE K x y H r ∧ Q (.bl (!r)) H
theorem op_eqLE {X : Cx} (hu : X.A.units + 4 < cLine) : OpR X (compareOp .Eq) (rEqLE X.K) := by
  intro pins s σ H x y v u Q I rx ry h
  obtain ⟨r, ⟨a, b, xs, ys, rfl, rfl, ha, hb, hr⟩, q⟩ := h
  cases rx
  cases ry
  obtain ⟨its, r1, p1, _⟩ := I.list ha
  obtain ⟨its2, r2, p2, _⟩ := I.list hb
  rcases hr with ⟨ne, rfl⟩ | ⟨hp, rfl⟩
  · have hz : (its.toArray.size != its2.toArray.size) = true := by
      rw [List.size_toArray, List.size_toArray, bne_iff_ne, ← r1.length, ← r2.length]
      exact ne
    exact SeqAt.eq_list_lengthsAt p1.isList p2.isList hz (by omega) ⟨.bl false, H, I, rfl, q⟩
  · have hl : its.toArray.size = its2.toArray.size := by rw [List.size_toArray, List.size_toArray, ← r1.length, ← r2.length, Paired.length hp]
    refine SeqAt.eq_listAt (e := fun _ => true) p1.isList p2.isList hl (by omega) (fun j h1 h2 => itN_items I (show X.A.in1.units + 1 < cLine by show X.A.units + 1 + 1 < cLine; omega) hp r1 r2 j h1 h2) ?_
    rw [all_true]
    exact ⟨.bl true, H, I, rfl, q⟩
theorem op_neLE {X : Cx} (hu : X.A.units + 4 < cLine) : OpR X (compareOp .NotEq) (rNeLE X.K) := by
  intro pins s σ H x y v u Q I rx ry h
  obtain ⟨r, ⟨a, b, xs, ys, rfl, rfl, ha, hb, hr⟩, q⟩ := h
  cases rx
  cases ry
  obtain ⟨its, r1, p1, _⟩ := I.list ha
  obtain ⟨its2, r2, p2, _⟩ := I.list hb
  rcases hr with ⟨ne, rfl⟩ | ⟨hp, rfl⟩
  · have hz : (its.toArray.size != its2.toArray.size) = true := by
      rw [List.size_toArray, List.size_toArray, bne_iff_ne, ← r1.length, ← r2.length]
      exact ne
    exact SeqAt.RcNeAt.lists_lengths p1.isList p2.isList hz (by omega) _ _ _ _ ⟨.bl true, H, I, rfl, q⟩
  · have hl : its.toArray.size = its2.toArray.size := by rw [List.size_toArray, List.size_toArray, ← r1.length, ← r2.length, Paired.length hp]
    refine SeqAt.RcNeAt.lists (e := fun _ => true) p1.isList p2.isList hl (by omega) (fun j h1 h2 => itN_items I (show X.A.in1.units + 1 < cLine by show X.A.units + 1 + 1 < cLine; omega) hp r1 r2 j h1 h2) _ _ _ _ ?_
    rw [all_true]
    exact ⟨.bl false, H, I, rfl, q⟩
@[irreducible] def rEqO (K : PySem.W.Frag) : R2 := fun x y H Q => (scal x y = true ∧ Q (.bl (decide (x = y))) H) ∨ rEqD K x y H Q ∨ (∃ r, DEqs x y H r ∧ Q (.bl r) H) ∨ (IdT K x y H ∧ Q (.bl true) H) ∨ rEqW K x y H Q ∨ rEqN K x y H Q ∨ rEqEm K x y H Q ∨ rEqRS K x y H Q ∨ rEqLE K x y H Q ∨ rEqX K x y H Q
@[irreducible] def rNeO (K : PySem.W.Frag) : R2 := fun x y H Q => (scal x y = true ∧ Q (.bl (!decide (x = y))) H) ∨ rNeD K x y H Q ∨ (∃ r, DEqs x y H r ∧ Q (.bl (!r)) H) ∨ (IdT K x y H ∧ Q (.bl false) H) ∨ rNeW K x y H Q ∨ rNeN K x y H Q ∨ rNeLE K x y H Q ∨ rNeX K x y H Q
def rEqU (K : PySem.W.Frag) : R2 := fun x y H Q => match x, y with
  | .int i, .int j => Q (.bl (decide (i = j))) H
  | .str i, .str j => Q (.bl (decide (i = j))) H
  | .bl i, .bl j => Q (.bl (decide (i = j))) H
  | x, y => rEqO K x y H Q
def rNeU (K : PySem.W.Frag) : R2 := fun x y H Q => match x, y with
  | .int i, .int j => Q (.bl (!decide (i = j))) H
  | .str i, .str j => Q (.bl (!decide (i = j))) H
  | .bl i, .bl j => Q (.bl (!decide (i = j))) H
  | x, y => rNeO K x y H Q
def rI2 (p : Int → Int → Bool) (q : List Nat → List Nat → Bool) : R2 := fun x y H Q => match x, y with
  | .int i, .int j => Q (.bl (p i j)) H
  | .str i, .str j => Q (.bl (q i.cps.toList j.cps.toList)) H
  | _, _ => False
def rLtU : R2 := rI2 (fun i j => decide (i < j)) fun a b => decide (a < b)
def rLeU : R2 := rI2 (fun i j => decide (i ≤ j)) fun a b => !decide (b < a)
def rGtU : R2 := rI2 (fun i j => decide (j < i)) fun a b => decide (b < a)
def rGeU : R2 := rI2 (fun i j => decide (j ≤ i)) fun a b => !decide (a < b)
def rIsU : R2 := fun x y H Q => match x, y with
  | .bl a, .bl b => Q (.bl (decide (a = b))) H
  | x, y => y = .non ∧ Q (.bl (decide (x = .non))) H
def rIsnU : R2 := fun x y H Q => match x, y with
  | .bl a, .bl b => Q (.bl (!decide (a = b))) H
  | x, y => y = .non ∧ Q (.bl (!decide (x = .non))) H
def rInU (K : PySem.W.Frag) : R2 := fun x y H Q => match x, y with
  | .str i, .str j => Q (.bl (!(Builtin.Str.occurrences j i 0 j.length 1).isEmpty)) H
  | x, y => rIn K false x y H Q ∨ (∃ a o, y = .ref a ∧ DGet H a x o ∧ Q (.bl o.isSome) H) ∨ rInI K false x y H Q ∨ rInOdd x y H Q
def rNinU (K : PySem.W.Frag) : R2 := fun x y H Q => match x, y with
  | .str i, .str j => Q (.bl (!(!(Builtin.Str.occurrences j i 0 j.length 1).isEmpty))) H
  | x, y => rIn K true x y H Q ∨ (∃ a o, y = .ref a ∧ DGet H a x o ∧ Q (.bl (!o.isSome)) H) ∨ rInI K true x y H Q
def rCmp (K : PySem.W.Frag) : CmpOp → Option R2
  | .Eq => some (rEqU K)
  | .NotEq => some (rNeU K)
  | .Lt => some rLtU
  | .LtE => some rLeU
  | .Gt => some rGtU
  | .GtE => some rGeU
  | .Is => some rIsU
  | .IsNot => some rIsnU
  | .In => some (rInU K)
  | .NotIn => some (rNinU K)
theorem op_in_dict {X : Cx} (hu : X.A.units + 1 < cLine) : OpR X (compareOp .In) fun x y H Q => ∃ a o, y = .ref a ∧ DGet H a x o ∧ Q (.bl o.isSome) H := by
  intro pins s σ H x y v u Q I rx ry h
  obtain ⟨a, o, rfl, g, q⟩ := h
  cases ry
  exact d_in hu I g rx fun s3 I3 => ⟨.bl o.isSome, H, I3, rfl, q⟩
theorem op_nin_dict {X : Cx} (hu : X.A.units + 1 < cLine) : OpR X (compareOp .NotIn) fun x y H Q => ∃ a o, y = .ref a ∧ DGet H a x o ∧ Q (.bl (!o.isSome)) H := by
  intro pins s σ H x y v u Q I rx ry h
  obtain ⟨a, o, rfl, g, q⟩ := h
  cases ry
  exact d_notIn hu I g rx fun s3 I3 => ⟨.bl (!o.isSome), H, I3, rfl, q⟩
theorem rI2_ok {X : Cx} {op : CmpOp} {p : Int → Int → Bool} {q : List Nat → List Nat → Bool} (h : OpR X (compareOp op) (rI0 fun i j => .bl (p i j))) (h2 : OpR X (compareOp op) fun x y H Q => ∃ i j, x = .str i ∧ y = .str j ∧ Q (.bl (q i.cps.toList j.cps.toList)) H) :
    OpR X (compareOp op) (rI2 p q) := opMono (h.or h2) fun x y H Q z => by
  unfold rI2 at z
  split at z
  · exact .inl ⟨_, _, rfl, rfl, z⟩
  · exact .inr ⟨_, _, rfl, rfl, z⟩
  · exact z.elim
theorem rCmp_ok {X : Cx} {op : CmpOp} {r : R2} (hu : X.A.units + 100 < cLine) (h : rCmp X.K op = some r) : OpR X (compareOp op) r := by
  cases op <;> first | cases h | (have e := Option.some.inj h; subst e)
  · refine opMono (op_eq.or ((op_eqD (by omega)).or ((op_eq_dictU (by omega)).or ((op_eqI (by omega)).or ((op_eqW (by omega)).or ((op_eqN (by omega)).or ((op_eqEm (by omega)).or ((op_eqRS (by omega)).or ((op_eqLE (by omega)).or (op_eqX (by omega))))))))))) fun x y H Q q => ?_
    unfold rEqU at q
    split at q
    · exact .inl ⟨rfl, by simpa using q⟩
    · exact .inl ⟨rfl, by simpa using q⟩
    · exact .inl ⟨rfl, by simpa using q⟩
    · unfold rEqO at q
      exact q
  · refine opMono (op_ne.or ((op_neD (by omega)).or ((op_ne_dictU (by omega)).or ((op_neI (by omega)).or ((op_neW (by omega)).or ((op_neN (by omega)).or ((op_neLE (by omega)).or (op_neX (by omega))))))))) fun x y H Q q => ?_
    unfold rNeU at q
    split at q
    · exact .inl ⟨rfl, by simpa using q⟩
    · exact .inl ⟨rfl, by simpa using q⟩
    · exact .inl ⟨rfl, by simpa using q⟩
    · unfold rNeO at q
      exact q
  · exact rI2_ok op_lt op_lt_str
  · exact rI2_ok op_le op_le_str
  · exact rI2_ok op_gt op_gt_str
  · exact rI2_ok op_ge op_ge_str
  · refine opMono (op_isBl.or op_isN) fun x y H Q q => ?_
    unfold rIsU at q
    split at q
    · exact .inl ⟨_, _, rfl, rfl, q⟩
    · exact .inr q
  · refine opMono (op_notBl.or op_notN) fun x y H Q q => ?_
    unfold rIsnU at q
    split at q
    · exact .inl ⟨_, _, rfl, rfl, q⟩
    · exact .inr q
  · refine opMono (op_in_str.or (op_in_seq.or ((op_in_dict (by omega)).or ((op_inI (by omega)).or (op_inOdd (by omega)))))) fun x y H Q q => ?_
    unfold rInU at q
    split at q
    · exact .inl ⟨_, _, rfl, rfl, q⟩
    · exact .inr q
  · refine opMono (op_notIn_str.or (op_notIn_seq.or ((op_nin_dict (by omega)).or (op_ninI (by omega))))) fun x y H Q q => ?_
    unfold rNinU at q
    split at q
    · exact .inl ⟨_, _, rfl, rfl, q⟩
    · exact .inr q
/-- names, tests: by their kinds -/
def tV (i : Nat) : TE := fun σ H Q => match σ[i]? with
  | some (some v) => Q v H
  | _ => False
theorem pe_v {X : Cx} {i : Nat} {x : Str} {pos : Pos} (hN : X.N[i]? = some x) (hv : Vis X.env.scope x) (hd : (x == ("__debug__" : Str)) = false) (hcd : (x == ("__classdict__" : Str)) = false) : PE X (.Name x pos) (tV i) :=
  ⟨fun pins s σ H Q I h => (pe_var hN hv hd hcd).run pins s σ H Q I (by
    unfold tV at h
    split at h
    · exact ⟨_, by assumption, h⟩
    · exact h.elim)⟩
def tBo (t : TE) : TT := fun σ H Q => t σ H fun x H' => match x with
  | .bl k => Q k H'
  | _ => False
section
variable {X : Cx} {a b c : Expr} {ta tb tc : TE} {pos : Pos}
def onB (x : V) (Q : Bool → Prop) : Prop := match x with
  | .bl k => Q k
  | _ => False
theorem onB_of {x : V} {Q : Bool → Prop} (h : onB x Q) : ∃ k, x = .bl k ∧ Q k := by
  unfold onB at h
  split at h
  · exact ⟨_, rfl, h⟩
  · exact h.elim
theorem pt_cmpU {op : CmpOp} {r : R2} (ho : OpR X (compareOp op) r) (ha : PE X a ta) (hb : PE X b tb) (hm : behindInMarks op b = false) : PT X (.Compare a [op] [b] pos) (tBo (tOp r ta tb)) := by
  refine ⟨fun pins s σ H Q I h => ?_⟩
  refine wpAny_isTrue_Compare1 (thn (ha.run pins s σ H _ I h) fun v s1 ⟨x, H1, I1, r1, q1⟩ => thn (hb.run pins s1 σ H1 _ I1 q1) fun u s2 ⟨y, H2, I2, r2, q2⟩ =>
    thn (ho pins s2 σ H2 x y v u _ I2 r1 r2 q2) fun c s3 ⟨z, H3, I3, r3, q3⟩ => ?_) hm
  cases z <;> first | exact False.elim q3 | skip
  cases r3
  exact wpAny_truthy_bool ⟨H3, I3, q3⟩
def tChU (r r' : R2) (ta tb tc : TE) : TE := fun σ H Q => ta σ H fun x H1 => tb σ H1 fun y H2 => r x y H2 fun z H3 => onB z fun k => cnd k (tc σ H3 fun w' H4 => r' y w' H4 Q) (Q (.bl false) H3)
theorem pe_chU {op op' : CmpOp} {r r' : R2} (ho : OpR X (compareOp op) r) (ho' : OpR X (compareOp op') r') (ha : PE X a ta) (hb : PE X b tb) (hc : PE X c tc) (hm : lastMarks [op, op'] [b, c] = false) : PE X (.Compare a [op, op'] [b, c] pos) (tChU r r' ta tb tc) := by
  refine ⟨fun pins s σ H Q I h => ?_⟩
  refine Compare_chain (thn (ha.run pins s σ H _ I h) fun v s1 ⟨x, H1, I1, r1, q1⟩ => chain_link (thn (hb.run pins s1 σ H1 _ I1 q1) fun u s2 ⟨y, H2, I2, r2, q2⟩ =>
    thn (ho pins s2 σ H2 x y v u _ I2 r1 r2 q2) fun d s3 ⟨z, H3, I3, r3, q3⟩ => ?_)) hm
  obtain ⟨k, e, q3⟩ := onB_of q3
  subst e
  cases r3
  refine wpAny_truthy_bool ?_
  cases k with
  | false => exact ite_ff ⟨.bl false, H3, I3, rfl, of_f q3⟩
  | true => exact ite_tt (chain_last (thn (hc.run pins s3 σ H3 _ I3 (of_t q3)) fun w' s4 ⟨z', H4, I4, r4, q4⟩ => ho' pins s4 σ H4 y z' u w' Q I4 r2 r4 q4))
theorem pt_chU {op op' : CmpOp} {r r' : R2} (ho : OpR X (compareOp op) r) (ho' : OpR X (compareOp op') r') (ha : PE X a ta) (hb : PE X b tb) (hc : PE X c tc) (hm : lastMarks [op, op'] [b, c] = false) : PT X (.Compare a [op, op'] [b, c] pos) (tBo (tChU r r' ta tb tc)) := by
  refine ⟨fun pins s σ H Q I h => ?_⟩
  refine isTrue_chain (thn (ha.run pins s σ H _ I h) fun v s1 ⟨x, H1, I1, r1, q1⟩ => test_link (thn (hb.run pins s1 σ H1 _ I1 q1) fun u s2 ⟨y, H2, I2, r2, q2⟩ =>
    thn (ho pins s2 σ H2 x y v u _ I2 r1 r2 q2) fun d s3 ⟨z, H3, I3, r3, q3⟩ => ?_)) hm
  obtain ⟨k, e, q3⟩ := onB_of q3
  subst e
  cases r3
  refine wpAny_truthy_bool ?_
  cases k with
  | false =>
    have q3 := of_f q3
    exact ite_ff ⟨H3, I3, q3⟩
  | true =>
    have q3 := of_t q3
    refine ite_tt (test_last (thn (hc.run pins s3 σ H3 _ I3 q3) fun w' s4 ⟨z', H4, I4, r4, q4⟩ => thn (ho' pins s4 σ H4 y z' u w' _ I4 r2 r4 q4) fun d' s5 ⟨z2, H5, I5, r5, q5⟩ => ?_))
    cases z2 <;> first | exact False.elim q5 | skip
    cases r5
    exact wpAny_truthy_bool ⟨H5, I5, q5⟩
/-- and, or of truths, as values; not, by truth -/
def tAndU (ta tb : TE) : TE := fun σ H Q => ta σ H fun x H1 => onB x fun c => cnd c (tb σ H1 Q) (Q (.bl false) H1)
def tOrU (ta tb : TE) : TE := fun σ H Q => ta σ H fun x H1 => onB x fun c => cnd c (Q (.bl true) H1) (tb σ H1 Q)
def tNotU (ta : TE) : TE := fun σ H Q => ta σ H fun x H1 => onB x fun c => Q (.bl (!c)) H1
theorem pe_andU {rest : List Expr} (ha : PE X a ta) (hb : PE X (.BoolOp .And (b :: rest) pos) tb) : PE X (.BoolOp .And (a :: b :: rest) pos) (tAndU ta tb) := by
  refine ⟨fun pins s σ H Q I h => ?_⟩
  refine BoolOp_and (thn (ha.run pins s σ H _ I h) fun v s1 ⟨x, H1, I1, r1, q1⟩ => ?_)
  obtain ⟨c, rfl, q1⟩ := onB_of q1
  cases r1
  refine wpAny_truthy_bool ?_
  cases c with
  | true => exact hb.run pins s1 σ H1 Q I1 (of_t q1)
  | false => exact ⟨.bl false, H1, I1, rfl, of_f q1⟩
theorem pe_orU {rest : List Expr} (ha : PE X a ta) (hb : PE X (.BoolOp .Or (b :: rest) pos) tb) : PE X (.BoolOp .Or (a :: b :: rest) pos) (tOrU ta tb) := by
  refine ⟨fun pins s σ H Q I h => ?_⟩
  refine BoolOp_or (thn (ha.run pins s σ H _ I h) fun v s1 ⟨x, H1, I1, r1, q1⟩ => ?_)
  obtain ⟨c, rfl, q1⟩ := onB_of q1
  cases r1
  refine wpAny_truthy_bool ?_
  cases c with
  | false => exact hb.run pins s1 σ H1 Q I1 (of_f q1)
  | true => exact ⟨.bl true, H1, I1, rfl, of_t q1⟩
theorem pe_notU (ha : PE X a ta) : PE X (.UnaryOp .Not a pos) (tNotU ta) := by
  refine ⟨fun pins s σ H Q I h => ?_⟩
  refine UnaryOp_ (thn (ha.run pins s σ H _ I h) fun v s1 ⟨x, H1, I1, r1, q1⟩ => ?_)
  obtain ⟨c, rfl, q1⟩ := onB_of q1
  cases r1
  exact not_of (wpAny_truthy_bool ⟨.bl (!c), H1, I1, rfl, q1⟩)
def rNegU (x : V) (H : Hp) (Q : VK) : Prop := match x with
  | .int i => Q (.int (-i)) H
  | _ => False
theorem un_negU : UnR X (unaryOp .USub) rNegU := fun pins s σ H x v Q I rx h => un_neg pins s σ H x v Q I rx (by
  unfold rNegU at h
  split at h
  · exact ⟨_, rfl, h⟩
  · exact h.elim)
end
def truM (K : PySem.W.Frag) (x : V) (H : Hp) (Q : Bool → Hp → Prop) : Prop := match x with
  | .non => Q false H
  | .bl b => Q b H
  | .int i => Q (i != 0) H
  | .str y => y.length ≤ sizeLine ∧ Q ((y.length : Int) != 0) H
  | .ref p => (∃ xs, SqL K H p xs ∧ Q (!xs.isEmpty) H) ∨ (∃ xs, SqT K H p xs ∧ Q (!xs.isEmpty) H) ∨ ∃ kvs, H p = some (.dK kvs) ∧ Q (!kvs.isEmpty) H
  | _ => False
theorem truM_ok {K : PySem.W.Frag} {x : V} {H : Hp} {Q : Bool → Hp → Prop} (h : truM K x H Q) : ∃ k, TruV K x H k ∧ Q k H := by
  unfold truM at h
  split at h
  · exact ⟨_, rfl, h⟩
  · exact ⟨_, rfl, h⟩
  · exact ⟨_, rfl, h⟩
  · exact ⟨_, ⟨h.1, rfl⟩, h.2⟩
  · rcases h with ⟨xs, h1, h2⟩ | ⟨xs, h1, h2⟩ | ⟨kvs, h1, h2⟩
    · exact ⟨_, .inl ⟨xs, h1, rfl⟩, h2⟩
    · exact ⟨_, .inr (.inl ⟨xs, h1, rfl⟩), h2⟩
    · exact ⟨_, .inr (.inr ⟨kvs, h1, rfl⟩), h2⟩
  · exact h.elim
theorem pt_tru {X : Cx} {a : Expr} {ta : TE} (ha : PE X a ta) (he : ∀ whole, isTrue a X.env whole = (do let v ← whole; standAt a.pos; holding [v] (truthy v))) : PT X a (fun σ H Q => ta σ H fun x H' => truM X.K x H' Q) := by
  refine ⟨fun pins s σ H Q I h => ?_⟩
  exact isTrue_plain (thn (ha.run pins s σ H _ I h) fun v s1 ⟨x, H1, I1, r1, q1⟩ => tru_ok pins s1 σ H1 x v Q I1 r1 (truM_ok q1)) (he _)
def tTru (K : PySem.W.Frag) (te : TE) : TT := fun σ H Q => te σ H fun x H' => truM K x H' Q
end Rf
/-! Walks over dicts whose keys are tuples: values, items; enumerate over a dict. -/
namespace Rf
open PySem L2 PySem.Spec PyProof.Rows
section
variable {X : Cx} {pins : List (Addr × Obj)} {σ : L2.St} {H : Hp} {s : Shared} {d : Addr} {o : Obj}
theorem frzTV {kvs : List (List Key × V)} (I : Inv X pins σ H s) (h : H d = some (.frz o (.dT kvs))) :
    (d == sysModules) = false ∧ s.heap.get? d = some o ∧ o.ExactDict ∧ ∃ (es : Array DictEntry) (ep : Nat), o.data = .dict es ep ∧ es.size = kvs.length ∧
      ∀ (i : Nat) (k : List Key) (v : V), kvs[i]? = some (k, v) → ∃ (en : DictEntry) (q : Addr), es[i]? = some en ∧ en.key = .ref q ∧ H q = some (.tup (k.map kV)) ∧ RelV v en.val := by
  obtain ⟨hd, z, hs, xs, pr, o', es, ep, ho, hx, hdt, he, _⟩ := I.hok d _ h
  rw [hd] at ho
  cases ho
  refine ⟨hs, hd, hx, es, ep, hdt, ?_, fun i k v e => ?_⟩
  · have l1 : es.size = xs.length := size_of_entries he
    have l2 : kvs.length = xs.length := Paired.length pr
    omega
  · obtain ⟨b, hb, e1, e2, e3⟩ := paired_get pr e
    have q := entry_at he i
    rw [hb] at q
    exact ⟨_, b.2.1, q, rfl, e2, e3⟩
end
/-- the values, the pairs (key's own tuple, value) -/
def Itdt (d : Addr) (o : Obj) (kvs : List (List Key × V)) : It :=
  ⟨fun i H => H d = some (.frz o (.dT kvs)) ∧ i < kvs.length, fun i H x H' => H' = H ∧ ∃ k, kvs[i]? = some (k, x), fun i H => H d = some (.frz o (.dT kvs)) ∧ kvs.length ≤ i⟩
def Itit (d : Addr) (o : Obj) (kvs : List (List Key × V)) : It :=
  ⟨fun i H => H d = some (.frz o (.dT kvs)) ∧ i < kvs.length, fun i H x H' => ∃ T k v q, kvs[i]? = some (k, v) ∧ H q = some (.tup (k.map kV)) ∧ x = .ref T ∧ H T = none ∧ H' = upd H T (.tup [.ref q, v]), fun i H => H d = some (.frz o (.dT kvs)) ∧ kvs.length ≤ i⟩
section
variable {P : Program} {w : World} {K : PySem.W.Frag} {tg : Expr} {d : Addr} {o : Obj} {es : Array DictEntry} {ep : Nat}
theorem turn_valsT {kvs : List (List Key × V)} (it : Addr) (hod : o.data = .dict es ep) : Turn P w K tg (Itdt d o kvs) [it] it (fun i h => h.IsValIter it d i kvs.length ep) where
  mem := by simp
  obj := fun i h st b hb => by
    have e : b = it := by simpa using hb
    subst e
    obtain ⟨oi, e, c, dd⟩ := st
    exact ⟨oi, e, fun v z => by rw [dd] at z; cases z⟩
  keep := fun i h h' st k => st.at fun oi e => k it (by simp) oi e
  item := by
    intro X hP hw hK hc i pins s σ H E I hf st hg
    subst hP hw hK
    obtain ⟨hd, hi⟩ := hg
    obtain ⟨f0, f1, f2, f3, f4, f5⟩ := hf it (by simp)
    obtain ⟨hs, hgd, hx, es', ep', hdt, hsz, ent⟩ := frzTV I hd
    obtain ⟨rfl, rfl⟩ := dict_ep hod hdt
    obtain ⟨⟨k, v⟩, hkv⟩ : ∃ p, kvs[i]? = some p := ⟨kvs[i], List.getElem?_eq_getElem hi⟩
    obtain ⟨en, q, hen, hkey, hq, rv⟩ := ent i k v hkv
    have st' := st
    rw [← hsz] at st'
    have hi' : i < es'.size := by rw [hsz]; exact hi
    refine wpAny_pyNext_values_item_raw st' ⟨o, hgd, hx, hdt⟩ hi' fun h' st2 sb => ?_
    have I1 : Inv X pins σ H { s with heap := h' } := I.turned (t' := s.toks) (fun b ob hb e => (sb.2 b hb).trans e) f0 f1 f3 f4 f5
    obtain ⟨oi, e, c, dd⟩ := id st2
    have ev : es'[i] = en := by
      rw [Array.getElem?_eq_getElem hi'] at hen
      exact Option.some.inj hen
    refine ⟨es'[i].val, rfl, go_of (s := { s with heap := h' }) e c dd (by decide) ⟨v, H, I1, by rw [ev]; exact rv, ⟨rfl, k, hkv⟩, ?_, fun b hb => (hf b hb).1⟩⟩
    show h'.IsValIter it d (i + 1) kvs.length _
    rw [← hsz]
    exact st2
  done := by
    intro X hP hw hK hc i pins s σ H E I hf st hg
    subst hP hw hK
    obtain ⟨hd, hi⟩ := hg
    obtain ⟨f0, f1, f2, f3, f4, f5⟩ := hf it (by simp)
    obtain ⟨hs, hgd, hx, es', ep', hdt, hsz, ent⟩ := frzTV I hd
    obtain ⟨rfl, rfl⟩ := dict_ep hod hdt
    rw [← hsz] at st hi
    exact wpAny_pyNext_values_end_raw (I.ok.hd hc) st ⟨o, hgd, hx, hdt⟩ hi fun h' eb => ⟨rfl, I.turned (t' := s.toks) (fun b ob hb e => eb b ob hb e) f0 f1 f3 f4 f5⟩
  self := fun A i s Q E st h => wpAny_pyIter_valiter st h
theorem turn_itemsT {kvs : List (List Key × V)} {elts : List Expr} {kk : Nat} {tpos : Pos} (it : Addr) (hod : o.data = .dict es ep) :
    Turn P w K (.Tuple elts kk tpos) (Itit d o kvs) [it] it (fun i h => ∃ ok ov, IsItemIter h it d i kvs.length ep ok ov) where
  mem := by simp
  obj := fun i h st b hb => by
    have e : b = it := by simpa using hb
    subst e
    obtain ⟨ok, ov, e⟩ := st
    exact ⟨_, e, fun v z => nomatch z⟩
  keep := fun i h h' st k => let ⟨ok, ov, e⟩ := st; ⟨ok, ov, k it (by simp) _ e⟩
  item := by
    intro X hP hw hK hc i pins s σ H E I hf st hg
    subst hP hw hK
    obtain ⟨hd, hi⟩ := hg
    obtain ⟨hs, hgd, hx, es', ep', hdt, hsz, ent⟩ := frzTV I hd
    obtain ⟨rfl, rfl⟩ := dict_ep hod hdt
    obtain ⟨⟨k, v⟩, hkv⟩ : ∃ p, kvs[i]? = some p := ⟨kvs[i], List.getElem?_eq_getElem hi⟩
    obtain ⟨en, q, hen, hkey, hq, rv⟩ := ent i k v hkv
    obtain ⟨ok, ov, he⟩ := st
    rw [← hsz] at he
    have hi' : i < es'.size := by rw [hsz]; exact hi
    have hlt : it < s.heap.objs.size := Heap.lt_size he
    have ev : es'[i] = en := by
      rw [Array.getElem?_eq_getElem hi'] at hen
      exact Option.some.inj hen
    refine wpAny_pyNext_items_item_raw he ⟨o, hgd, hx, hdt⟩ hi' fun h' ho hT hz hk => ?_
    refine ⟨_, rfl, wpAny_letOwnedTupleGo_items (s := { s with heap := h' }) ho fun h'' he' sb => ?_⟩
    rw [ev, hkey] at hT
    have hT2 : h''.get? s.heap.objs.size = some { cls := .type "tuple", data := .seq #[.ref q, en.val] } := (sb.2 _ (Nat.ne_of_gt hlt)).trans hT
    have new : ObjOk X.prog X.w (upd H s.heap.objs.size (.tup [.ref q, v])) h'' s.heap.objs.size (.tup [.ref q, v]) :=
      ⟨by show 2 ≤ sizeLine; decide, [.ref q, en.val], .cons rfl (.cons rv .nil), ⟨_, hT2, rfl, _, rfl⟩⟩
    have I1 : Inv X pins σ (upd H s.heap.objs.size (.tup [.ref q, v])) { s with heap := h'' } :=
      I.turnedNew (t' := s.toks) (ch := [it]) (fun b ob hb e => (sb.2 b (by simpa using hb)).trans (hk b ob (by simpa using hb) e)) hf (Nat.le_refl _) new
    refine ⟨.ref s.heap.objs.size, _, I1, rfl, ⟨_, k, v, q, hkv, hq, rfl, I.hok.fresh (Nat.le_refl _), rfl⟩, ⟨es'[i].key, es'[i].val, ?_⟩, fun b hb => ?_⟩
    · rw [← hsz]; exact he'
    · have e : b = it := by simpa using hb
      rw [e, upd_ne (Nat.ne_of_lt hlt)]
      exact (hf it (by simp)).1
  done := by
    intro X hP hw hK hc i pins s σ H E I hf st hg
    subst hP hw hK
    obtain ⟨hd, hi⟩ := hg
    obtain ⟨f0, f1, f2, f3, f4, f5⟩ := hf it (by simp)
    obtain ⟨hs, hgd, hx, es', ep', hdt, hsz, ent⟩ := frzTV I hd
    obtain ⟨rfl, rfl⟩ := dict_ep hod hdt
    obtain ⟨ok, ov, he⟩ := st
    rw [← hsz] at he hi
    exact wpAny_pyNext_items_end_raw (I.ok.hd hc) he ⟨o, hgd, hx, hdt⟩ hi fun h' eb => ⟨rfl, I.turned (t' := s.toks) (fun b ob hb e => eb b ob hb e) f0 f1 f3 f4 f5⟩
  self := fun A i s Q E st h => let ⟨_, _, e⟩ := st; PySem.W.kcp_self e h
end
/-! ### rules -/
def iValsU (td : TE) : TI := fun σ H R => td σ H fun x H1 => ∃ d o, x = .ref d ∧ ((∃ kvs, H1 d = some (.frz o (.dK kvs)) ∧ R (Itd d o kvs) H1) ∨ ∃ kvs, H1 d = some (.frz o (.dT kvs)) ∧ R (Itdt d o kvs) H1)
def iItemsU (td : TE) : TI := fun σ H R => td σ H fun x H1 => ∃ d o, x = .ref d ∧ ((∃ kvs, H1 d = some (.frz o (.dK kvs)) ∧ R (Iti d o kvs) H1) ∨ ∃ kvs, H1 d = some (.frz o (.dT kvs)) ∧ R (Itit d o kvs) H1)
/-- a dict made just now, and held -/
def tFrz (td : TE) : TE := fun σ H Q => td σ H fun x H1 => ∃ d kvs, x = .ref d ∧ H1 d = some (.dK kvs) ∧ ∀ od, Q x (upd H1 d (.frz od (.dK kvs)))
theorem pe_frz {X : Cx} {e : Expr} {td : TE} (he : PE X e td) : PE X e (tFrz td) := by
  refine ⟨fun pins s σ H Q I h => thn (he.run pins s σ H _ I h) fun u s1 ⟨x, H1, I1, rx, d, kvs, ex, hd, q⟩ => ?_⟩
  obtain ⟨od, I2⟩ := I1.lock hd trivial
  subst ex
  exact ⟨.ref d, _, I2, rx, q od⟩
section
variable {X : Cx} {tg e : Expr} {td : TE} {apos cpos : Pos}
theorem rawNoDict {s : Shared} {d : Addr} {es : Array DictEntry} {ep : Nat} (x : DT.Raw s.heap d es ep) : ∀ a, Value.ref d = Value.ref a → ∃ ob, s.heap.get? a = some ob ∧ ob.dict = none := fun a e => by
  obtain ⟨o, ho, hx, _⟩ := x
  cases e
  exact ⟨o, ho, hx.2.1⟩
theorem pi_valuesU (he : PE X e td) (hbase : attributeBase e "values" X.env (eval e X.env) = eval e X.env := by rfl) (hline : (apos.endLine == cpos.line) = true := by rfl) : PI X tg (.Call (.Attribute e "values" apos) [] [] cpos) (iValsU td) := by
  refine ⟨fun pins s σ H R I h => ?_⟩
  refine wpAny_Call_method (T := "dict") (id := "dict.values") hbase rfl hline F.plainAttrs_dict F.slot_dict_values F.type_dict_values (thn (he.run pins s σ H _ I h) fun u s1 ⟨x, H1, I1, rx, d, o, ex, q⟩ => ?_)
  subst ex
  obtain rfl : u = Value.ref d := rx
  rcases q with ⟨kvs, hd, q⟩ | ⟨kvs, hd, q⟩
  · obtain ⟨hs, hgd, hx, es, ep, vs, hdt, hsz, kv, hm⟩ := I1.frzK hd
    have hl : kvs.length = vs.length := Paired.length kv
    refine ⟨hm.dictOf.typeIs, hm.dictOf.mapOf.noDict, ?_⟩
    have I2 : Inv X pins σ H1 { s1 with heap := s1.heap.push { cls := .type "dict_values", data := .fields #[.ref d] } } := I1.kept (t' := s1.toks) fun b ob q => Heap.get?_push_of_some _ q
    have fin : wpAny (model X.prog X.w) X.A (pyIter (.ref s1.heap.objs.size)) (PIE X pins σ tg R) X.xe { s1 with heap := s1.heap.push { cls := .type "dict_values", data := .fields #[.ref d] } } := by
      refine wpAny_pyIter_values (d := d) (knd := mixKind X.prog X.w) ⟨_, Heap.get?_push_size _ rfl, rfl, rfl⟩ (hm.push _) (pi_one (tk := s1.toks) I2 _ (turn_vals _ hdt) ⟨_, Heap.get?_push_size _ rfl, rfl, ?_⟩ q)
      rw [hl] <;> rfl
    show wpAny _ _ (callWith cpos (.builtin "dict.values") [.ref d] [] []) _ X.xe s1
    exact method_meetsIn F.slot_dict_values F.entry_dict_values rfl (PySem.evalArgs_none ⟨rfl, hm.dictOf.typeIs, F.args_dict_values_1 _, _, meets_dict_values (mixKind X.prog X.w) d hs, ⟨vs, hm.dictOf⟩, fin⟩)
  · obtain ⟨hs, hgd, hx, es, ep, hdt, hsz, ent⟩ := frzTV I1 hd
    have raw : DT.Raw s1.heap d es ep := ⟨o, hgd, hx, hdt⟩
    refine ⟨raw.typeIs, rawNoDict raw, ?_⟩
    have I2 : Inv X pins σ H1 { s1 with heap := s1.heap.push { cls := .type "dict_values", data := .fields #[.ref d] } } := I1.kept (t' := s1.toks) fun b ob q => Heap.get?_push_of_some _ q
    have fin : wpAny (model X.prog X.w) X.A (pyIter (.ref s1.heap.objs.size)) (PIE X pins σ tg R) X.xe { s1 with heap := s1.heap.push { cls := .type "dict_values", data := .fields #[.ref d] } } := by
      refine wpAny_pyIter_values_raw (d := d) ⟨_, Heap.get?_push_size _ rfl, rfl, rfl⟩ (raw.push _) (pi_one (tk := s1.toks) I2 _ (turn_valsT _ hdt) ⟨_, Heap.get?_push_size _ rfl, rfl, ?_⟩ q)
      rw [hsz] <;> rfl
    show wpAny _ _ (callWith cpos (.builtin "dict.values") [.ref d] [] []) _ X.xe s1
    exact method_meetsIn F.slot_dict_values F.entry_dict_values rfl (PySem.evalArgs_none ⟨rfl, raw.typeIs, F.args_dict_values_1 _, _, meets_dict_values_raw d hs, ⟨es, ep, raw⟩, fin⟩)
theorem pi_itemsU {elts : List Expr} {kk : Nat} {tpos : Pos} (he : PE X e td) (hbase : attributeBase e "items" X.env (eval e X.env) = eval e X.env := by rfl) (hline : (apos.endLine == cpos.line) = true := by rfl) :
    PI X (.Tuple elts kk tpos) (.Call (.Attribute e "items" apos) [] [] cpos) (iItemsU td) := by
  refine ⟨fun pins s σ H R I h => ?_⟩
  refine wpAny_Call_method (T := "dict") (id := "dict.items") hbase rfl hline F.plainAttrs_dict F.slot_dict_items F.type_dict_items (thn (he.run pins s σ H _ I h) fun u s1 ⟨x, H1, I1, rx, d, o, ex, q⟩ => ?_)
  subst ex
  obtain rfl : u = Value.ref d := rx
  have I2 : Inv X pins σ H1 { s1 with heap := s1.heap.push { cls := .type "dict_items", data := .fields #[.ref d] } } := I1.kept (t' := s1.toks) fun b ob q => Heap.get?_push_of_some _ q
  rcases q with ⟨kvs, hd, q⟩ | ⟨kvs, hd, q⟩
  · obtain ⟨hs, hgd, hx, es, ep, vs, hdt, hsz, kv, hm⟩ := I1.frzK hd
    have hl : kvs.length = vs.length := Paired.length kv
    refine ⟨hm.dictOf.typeIs, hm.dictOf.mapOf.noDict, ?_⟩
    have fin : wpAny (model X.prog X.w) X.A (pyIter (.ref s1.heap.objs.size)) (PIE X pins σ (.Tuple elts kk tpos) R) X.xe { s1 with heap := s1.heap.push { cls := .type "dict_items", data := .fields #[.ref d] } } := by
      refine wpAny_pyIter_items (d := d) (knd := mixKind X.prog X.w) ⟨_, Heap.get?_push_size _ rfl, rfl, rfl⟩ (hm.push _) (pi_one (tk := s1.toks) I2 _ (turn_items _ hdt) ⟨.none, .none, ?_⟩ q)
      rw [hl]
      exact Heap.get?_push_size _ rfl
    show wpAny _ _ (callWith cpos (.builtin "dict.items") [.ref d] [] []) _ X.xe s1
    exact method_meetsIn F.slot_dict_items F.entry_dict_items rfl (PySem.evalArgs_none ⟨rfl, hm.dictOf.typeIs, F.args_dict_items_1 _, _, meets_dict_items (mixKind X.prog X.w) d hs, ⟨vs, hm.dictOf⟩, fin⟩)
  · obtain ⟨hs, hgd, hx, es, ep, hdt, hsz, ent⟩ := frzTV I1 hd
    have raw : DT.Raw s1.heap d es ep := ⟨o, hgd, hx, hdt⟩
    refine ⟨raw.typeIs, rawNoDict raw, ?_⟩
    have fin : wpAny (model X.prog X.w) X.A (pyIter (.ref s1.heap.objs.size)) (PIE X pins σ (.Tuple elts kk tpos) R) X.xe { s1 with heap := s1.heap.push { cls := .type "dict_items", data := .fields #[.ref d] } } := by
      refine wpAny_pyIter_items_raw (d := d) ⟨_, Heap.get?_push_size _ rfl, rfl, rfl⟩ (raw.push _) (pi_one (tk := s1.toks) I2 _ (turn_itemsT _ hdt) ⟨.none, .none, ?_⟩ q)
      rw [← hsz]
      exact Heap.get?_push_size _ rfl
    show wpAny _ _ (callWith cpos (.builtin "dict.items") [.ref d] [] []) _ X.xe s1
    exact method_meetsIn F.slot_dict_items F.entry_dict_items rfl (PySem.evalArgs_none ⟨rfl, raw.typeIs, F.args_dict_items_1 _, _, meets_dict_items_raw d hs, ⟨es, ep, raw⟩, fin⟩)
end
end Rf
namespace PySem
open Sem (wp)
theorem own_enumerate_newB {v : Value} {o : Obj} {H : Heap → Prop} (B : Begins v o H) :
    Meets (Builtin.«enumerate.__new__» ⟨[.type "enumerate", v], []⟩) (fun _ R s => H s.heap ∧
      R (.ok (.ret (.ref (s.heap.push o).objs.size))) { s with heap := (s.heap.push o).push { cls := .type "enumerate", data := .fields #[.none, .bool false, .ref s.heap.objs.size, rawInt 0, .none, .none] } }) :=
  .of_wp fun prog w A R s h => by
    obtain ⟨hp, g, d, tk, os⟩ := s; obtain ⟨h1, h⟩ := h
    have hsub := sub_enumerate
    have q1 : ∀ {A' : Around} {E : Value → Shared → Prop} {Q : Value → Shared → Prop}, Q (.ref hp.objs.size) ⟨hp.push o, g, d, tk, os⟩ → wpAny (model prog w) A' (pyIter v) Q E ⟨hp, g, d, tk, os⟩ :=
      fun q => B.iter prog w _ _ ⟨hp, g, d, tk, os⟩ _ h1 q
    wp_walk using q1
    refine wpAny_stack_any fun st => wpAny_pure ?_
    split
    · rename_i c _ _ _ _ _
      cases (c == Value.type "enumerate")
      · wp_walk using q1
        exact ⟨_, rfl, h⟩
      · wp_walk using q1
        exact ⟨_, rfl, h⟩
    · wp_walk using q1
      exact ⟨_, rfl, h⟩
section
variable {prog : Program} {w : World} {A : Around} {E : Value → Shared → Prop} {s : Shared}
theorem own_enum_begins {v : Value} {o : Obj} {H : Heap → Prop} {Q : Value → Shared → Prop} (B : Begins v o H) (h1 : H s.heap)
    (h : ∀ h', IsEnum h' (s.heap.objs.size + 1) s.heap.objs.size 0 .none → h'.get? s.heap.objs.size = some o → h'.objs.size = s.heap.objs.size + 2 →
      (∀ b o, s.heap.get? b = some o → h'.get? b = some o) → Q (.ref (s.heap.objs.size + 1)) { s with heap := h' }) :
    wpAny (model prog w) A (call (.type "enumerate") [v]) Q E s := by
  refine callType_new F.called_enumerate (by decide) (F.typeCall_enumerate_1 _) (F.newCall_enumerate_1 _) (fun obj => F.args_object_init_2 obj _) F.entry_enumerate_new
    (own_enumerate_newB B) ⟨h1, ?_⟩
  have hz : (s.heap.push o).objs.size = s.heap.objs.size + 1 := Heap.size_push ..
  show _ ∧ _
  rw [hz]
  have he : IsEnum ((s.heap.push o).push { cls := .type "enumerate", data := .fields #[.none, .bool false, .ref s.heap.objs.size, rawInt 0, .none, .none] }) (s.heap.objs.size + 1) s.heap.objs.size 0 .none := by
    have := Heap.get?_push_size (s.heap.push o) (o := { cls := .type "enumerate", data := .fields #[.none, .bool false, .ref s.heap.objs.size, rawInt 0, .none, .none] }) rfl
    rw [hz] at this; exact this
  refine ⟨⟨_, he, rfl⟩, h _ he (Heap.get?_push_of_some _ (Heap.get?_push_size _ B.free)) (by rw [Heap.size_push, hz]) fun b o x => Heap.get?_push_of_some _ (Heap.get?_push_of_some _ x)⟩
end
end PySem
namespace Rf
open PySem L2 PySem.Spec PyProof.Rows
/-! ### enumerate of a tuple -/
def IteT (K : PySem.W.Frag) (a : Addr) : It :=
  ⟨fun i H => ∃ (xs : List V) (x : V), SqT K H a xs ∧ xs[i]? = some x, fun i H v H' => ∃ T x, v = .ref T ∧ H T = none ∧ H' = L2.upd H T (.tup [.int (i : Nat), x]) ∧ ∀ xs, SqT K H a xs → xs[i]? = some x, fun i H => ∃ xs : List V, SqT K H a xs ∧ xs.length = i⟩
theorem turn_enumT {P : Program} {w : World} {K : PySem.W.Frag} {elts : List Expr} {kk : Nat} {tpos : Pos} {a e it : Addr} (n1 : a ≠ it) (n2 : e ≠ it) (n3 : e ≠ a) :
    Turn P w K (.Tuple elts kk tpos) (IteT K a) [e, it] e (fun i h => (∃ old, IsEnum h e it ((i : Nat) : Int) old) ∧ h.IsTupleIter it a i) where
  mem := by simp
  obj := fun i h st c hc => by
    obtain ⟨⟨old, he⟩, ⟨o1, e1, _, d1⟩⟩ := st
    have e' : c = e ∨ c = it := by simpa using hc
    rcases e' with q | q
    · rw [q]; exact ⟨_, he, fun v q => nomatch q⟩
    · rw [q]; exact ⟨o1, e1, fun v q => by rw [d1] at q; cases q⟩
  keep := fun i h h' st k => by
    obtain ⟨⟨old, he⟩, h1⟩ := st
    exact ⟨⟨old, k e (by simp) _ he⟩, h1.at fun o q => k it (by simp) o q⟩
  item := by
    intro X hP hw hK hc i pins s σ H E I hf st hg
    subst hP hw hK
    obtain ⟨hE, h1⟩ := st
    obtain ⟨xs, x, hq, hx⟩ := hg
    obtain ⟨its, rv, p, _⟩ := I.tuple hq
    obtain ⟨u, hu, ru⟩ := rv.get hx
    have hh := I.ok.hd hc
    have W := WalksT.enumerateD (A := X.A) (Draws.tuple (prog := X.prog) (w := X.w) (A := X.A.in1) hh it a n1 its.toArray) e n2 (by simp [n2, n3]) (by simp)
    have hl1 := (List.getElem?_eq_some_iff.mp hu).1
    refine W.item i s _ _ (by simp only [List.size_toArray]; omega) ⟨hE, h1, show s.heap.IsTuple a its.toArray from p⟩ fun T vals h' tk hP hT hI hM hk => ?_
    refine ⟨_, rfl, W.go elts kk tpos i T { s with heap := h', toks := tk } _ _ hM fun h'' hst hk2 => ?_⟩
    obtain ⟨t0, w1, q1, rfl⟩ := hP
    have f1 : u = w1 := by
      have : its[i]? = some w1 := by simpa using q1
      exact Option.some.inj (hu.symm.trans this)
    subst f1
    have hTw := W.apart i T h' hM
    have hT2 : h''.IsTuple T #[.int i t0, u] := hI.at fun o q => hk2 T o hTw q
    have new : ObjOk X.prog X.w (L2.upd H T (.tup [.int (i : Nat), x])) h'' T (.tup [.int (i : Nat), x]) :=
      ⟨by show 2 ≤ sizeLine; decide, [.int i t0, u], .cons ⟨_, rfl⟩ (.cons ru .nil), hT2⟩
    have I1 : L2.Inv X pins σ (L2.upd H T (.tup [.int (i : Nat), x])) { s with heap := h'', toks := tk } :=
      I.turnedNew (t' := tk) (ch := [e, it]) (fun d o hb q => hk2 d o hb (hk d o hb q)) hf hT new
    obtain ⟨g1, g2⟩ := hst
    refine ⟨.ref T, _, I1, rfl, ⟨_, x, rfl, I.hok.fresh hT, rfl, fun l hl => by rw [I.tuple_inj hl hq]; exact hx⟩, ⟨g1, g2.1⟩, fun d hcm => ?_⟩
    have hlt : d < s.heap.objs.size := by
      have e' : d = e ∨ d = it := by simpa using hcm
      obtain ⟨old, he⟩ := hE
      rcases e' with q | q
      · rw [q]; exact Heap.lt_size he
      · rw [q]; obtain ⟨_, e1, _⟩ := h1; exact Heap.lt_size e1
    rw [upd_ne (Nat.ne_of_lt (Nat.lt_of_lt_of_le hlt hT))]
    exact (hf d hcm).1
  done := by
    intro X hP hw hK hc i pins s σ H E I hf st hg
    subst hP hw hK
    obtain ⟨hE, h1⟩ := st
    obtain ⟨xs, hq, he⟩ := hg
    obtain ⟨its, rv, p, _⟩ := I.tuple hq
    have l1 := rv.length
    have hh := I.ok.hd hc
    have W := WalksT.enumerateD (A := X.A) (Draws.tuple (prog := X.prog) (w := X.w) (A := X.A.in1) hh it a n1 its.toArray) e n2 (by simp [n2, n3]) (by simp)
    have hn : i = its.toArray.size := by simp only [List.size_toArray]; omega
    subst hn
    exact W.done s _ _ ⟨hE, h1, show s.heap.IsTuple a its.toArray from p⟩ fun h' tk hk => ⟨rfl, I.turnedL (t' := tk) (ch := [e, it]) (fun d o hb q => hk d o hb q) hf⟩
  self := fun A i s Q E st h => let ⟨⟨_, he⟩, _⟩ := st; wpAny_pyIter_enum he h
theorem walk_enumT {K : PySem.W.Frag} {a : Addr} {xs : List V} : Walk (IteT K a) xs.length (fun H => SqT K H a xs) (YPair (fun i => some (.int (i : Nat))) (fun i => xs[i]?)) := by
  refine ⟨fun i _ hi q => ⟨xs, xs[i], q, by simp [hi]⟩, fun _ q => ⟨xs, q, rfl⟩, fun i H v H' _ q y => ?_⟩
  obtain ⟨T, x, h1, h2, h3, h4⟩ := y
  exact ⟨T, _, x, h1, h2, h3, rfl, h4 xs q⟩
end Rf
/-! enumerate over a dict's keys. -/
namespace RfE
open PySem PySem.Spec PyProof.Rows Builtin
open AutoSeq1 (wpAny_loadPart')
theorem meets_enumerate_newD (l : Addr) (es : Array DictEntry) (ep : Nat) (lo : (l == sysModules) = false) :
    Meets (Builtin.«enumerate.__new__» ⟨[.type "enumerate", .ref l], []⟩) (fun _ R s => s.heap.get? l = some { cls := .type "dict", dict := none, data := .dict es ep, slots := #[] } ∧
      R (.ok (.ret (.ref (s.heap.push { cls := .type "dict_keyiterator", data := .fields #[.ref l, .int 0 0, .int es.size 0, .int ep 0] }).objs.size)))
        { s with heap := (s.heap.push { cls := .type "dict_keyiterator", data := .fields #[.ref l, .int 0 0, .int es.size 0, .int ep 0] }).push { cls := .type "enumerate", data := .fields #[.none, .bool false, .ref s.heap.objs.size, rawInt 0, .none, .none] } }) :=
  .of_wp fun prog w A R s h => by
    obtain ⟨hp, g, d, tk, os⟩ := s; obtain ⟨hl, h⟩ := h
    have hsub := sub_enumerate
    have hL : Heap.DictRaw (Shared.heap ⟨hp, g, d, tk, os⟩) l es ep := ⟨_, hl, ⟨rfl, rfl, rfl⟩, rfl⟩
    wp_walk using wpAny_loadPart' hl
    refine wpAny_stack_any fun st => wpAny_pure ?_
    split
    · rename_i c _ _ _ _ _
      cases (c == Value.type "enumerate")
      · wp_walk using wpAny_loadPart' hl, wpAny_pyIter_dict_raw lo hL
        exact ⟨_, rfl, h⟩
      · wp_walk using wpAny_loadPart' hl, wpAny_pyIter_dict_raw lo hL
        exact ⟨_, rfl, h⟩
    · wp_walk using wpAny_loadPart' hl, wpAny_pyIter_dict_raw lo hL
      exact ⟨_, rfl, h⟩
section
variable {prog : Program} {w : World} {A : Around} {E : Value → Shared → Prop} {s : Shared}
theorem call_enumerate_dict {l : Addr} {es : Array DictEntry} {ep : Nat} {Q : Value → Shared → Prop} (lo : (l == sysModules) = false) (hL : s.heap.DictRaw l es ep)
    (h : ∀ h', IsEnum h' (s.heap.objs.size + 1) s.heap.objs.size 0 .none → h'.IsKeyIter s.heap.objs.size l 0 es.size ep → h'.objs.size = s.heap.objs.size + 2 →
      (∀ b o, s.heap.get? b = some o → h'.get? b = some o) → Q (.ref (s.heap.objs.size + 1)) { s with heap := h' }) :
    wpAny (model prog w) A (call (.type "enumerate") [.ref l]) Q E s := by
  obtain ⟨⟨c, dct, dt, sl⟩, hl, ⟨hc, h1, h2⟩, hd⟩ := hL
  replace hc : c = .type "dict" := hc
  replace hd : dt = .dict es ep := hd
  replace h1 : dct = none := h1
  replace h2 : sl = #[] := h2
  subst hc hd h1 h2
  refine callType_new F.called_enumerate (by decide) (F.typeCall_enumerate_1 _) (F.newCall_enumerate_1 _) (fun obj => F.args_object_init_2 obj _) F.entry_enumerate_new
    (meets_enumerate_newD l es ep lo) ⟨hl, ?_⟩
  have hz : (s.heap.push { cls := .type "dict_keyiterator", data := .fields #[.ref l, .int 0 0, .int es.size 0, .int ep 0] }).objs.size = s.heap.objs.size + 1 := Heap.size_push ..
  show _ ∧ _
  rw [hz]
  have he : IsEnum ((s.heap.push { cls := .type "dict_keyiterator", data := .fields #[.ref l, .int 0 0, .int es.size 0, .int ep 0] }).push
      { cls := .type "enumerate", data := .fields #[.none, .bool false, .ref s.heap.objs.size, rawInt 0, .none, .none] }) (s.heap.objs.size + 1) s.heap.objs.size 0 .none := by
    have := Heap.get?_push_size (s.heap.push { cls := .type "dict_keyiterator", data := .fields #[.ref l, .int 0 0, .int es.size 0, .int ep 0] })
      (o := { cls := .type "enumerate", data := .fields #[.none, .bool false, .ref s.heap.objs.size, rawInt 0, .none, .none] }) rfl
    rw [hz] at this; exact this
  refine ⟨⟨_, he, rfl⟩, h _ he ⟨_, Heap.get?_push_of_some _ (Heap.get?_push_size _ rfl), rfl, rfl⟩ (by rw [Heap.size_push, hz]) fun b o x => Heap.get?_push_of_some _ (Heap.get?_push_of_some _ x)⟩
theorem nextOf_key_item {it d : Addr} {i ep : Nat} {es : Array DictEntry} {Q : Value → Shared → Prop} (hit : s.heap.IsKeyIter it d i es.size ep)
    (hm : s.heap.DictRaw d es ep) (hlt' : i < es.size)
    (hQ : ∀ h', h'.IsKeyIter it d (i + 1) es.size ep → Heap.SameBut it s.heap h' → Q es[i].key { s with heap := h' }) : wpAny (model prog w) A (Builtin.SmallTypes.nextOf (.ref it)) Q E s := by
  obtain ⟨o, ho, hc, hd⟩ := id hit
  obtain ⟨od, hod, hcd, hdd⟩ := id hm
  unfold Builtin.SmallTypes.nextOf
  refine wpAny_bind (wpAny_callSpecial?_slot (name := Str.ofString "__next__") hit.typeIs F.slot_dict_keyiterator_next
    (wpAny_call_entry F.slot_dict_keyiterator_next hit.typeIs F.entry_dict_keyiterator_next ?_ (F.args_dict_keyiterator_next_1 _)))
  refine wpAny_bind (wpAny_pure ?_)
  refine wpAny_bind ?_
  refine wpAny_bind ?_
  first | refine wpAny_bind (wpAny_typeNameOfWhole_keyiter hit.typeIs (wpAny_pure ?_)) | refine wpAny_bind (wpAny_typeNameOf_keyiter hit.typeIs (wpAny_pure ?_))
  refine wpAny_bind (wpAny_fieldsOf ho hd ?_)
  have hown : Builtin.Dict_items.ownsTuple "dict_keyiterator" = false := by decide
  simp only [hown, Bool.false_eq_true, if_false]
  show wpAny _ _ (if (Value.ref d == Value.none) = true then _ else _) _ _ s
  rw [if_neg (show ¬ ((Value.ref d == Value.none) = true) from Bool.false_ne_true)]
  refine wpAny_bind (wpAny_pure ?_)
  refine wpAny_bind (wpAny_dictEntries hod hdd ?_)
  rw [if_neg (by simp)]
  refine wpAny_bind (wpAny_pure ?_)
  refine wpAny_bind (wpAny_dictEpoch hod hdd ?_)
  rw [if_neg (by simp)]
  refine wpAny_pure ?_
  simp only [show ¬ ((i : Int) < 0) from by omega, if_false, Int.toNat_natCast, Array.getElem?_eq_getElem hlt']
  refine wpAny_bind ?_
  first | refine wpAny_bind (wpAny_typeNameOfWhole_keyiter hit.typeIs (wpAny_pure ?_)) | refine wpAny_bind (wpAny_typeNameOf_keyiter hit.typeIs (wpAny_pure ?_))
  refine wpAny_bind (wpAny_isOneOf_keyiter hit.typeIs ?_)
  show wpAny _ _ (setField (.ref it) 1 (rawInt ((i : Int) + 1)) >>= _) _ _ s
  refine wpAny_bind (wpAny_setField ho hd (by simp) ?_)
  have hit' : (s.heap.update it (Obj.mapFields (·.setIfInBounds 1 (rawInt ((i : Int) + 1))))).IsKeyIter it d (i + 1) es.size ep :=
    ⟨_, Heap.get?_update_self _ ho (Obj.isFreed_of_fields (Obj.data_mapFields hd _)), (Obj.cls_mapFields ..).trans hc, by rw [Obj.data_mapFields hd]; simp [rawInt]⟩
  refine wpAny_bind (wpAny_holding ?_)
  refine wpAny_bind (wpAny_isOneOf_keyiter (s := { s with heap := s.heap.update it (Obj.mapFields (·.setIfInBounds 1 (rawInt ((i : Int) + 1)))) }) hit'.typeIs ?_)
  show wpAny _ _ (pure es[i].key) _ _ _
  exact wpAny_pure (wpAny_pure ⟨_, rfl, wpAny_pure (hQ _ hit' (Heap.SameBut.update ..))⟩)
theorem nextOf_key_end {it d : Addr} {i ep : Nat} {es : Array DictEntry} {Q : Value → Shared → Prop} (hh : A.handled = none) (hit : s.heap.IsKeyIter it d i es.size ep)
    (hm : s.heap.DictRaw d es ep) (hge : es.size ≤ i)
    (hE : ∀ h' e, Heap.ExtBut it s.heap h' → (∃ o, h'.get? e = some o ∧ o.cls = .type "StopIteration") → E (.ref e) { s with heap := h' }) :
    wpAny (model prog w) A (Builtin.SmallTypes.nextOf (.ref it)) Q E s := by
  obtain ⟨o, ho, hc, hd⟩ := id hit
  obtain ⟨od, hod, hcd, hdd⟩ := id hm
  unfold Builtin.SmallTypes.nextOf
  refine wpAny_bind (wpAny_callSpecial?_slot (name := Str.ofString "__next__") hit.typeIs F.slot_dict_keyiterator_next
    (wpAny_call_entry F.slot_dict_keyiterator_next hit.typeIs F.entry_dict_keyiterator_next ?_ (F.args_dict_keyiterator_next_1 _)))
  refine wpAny_bind (wpAny_pure ?_)
  refine wpAny_bind ?_
  refine wpAny_bind ?_
  first | refine wpAny_bind (wpAny_typeNameOfWhole_keyiter hit.typeIs (wpAny_pure ?_)) | refine wpAny_bind (wpAny_typeNameOf_keyiter hit.typeIs (wpAny_pure ?_))
  refine wpAny_bind (wpAny_fieldsOf ho hd ?_)
  have hown : Builtin.Dict_items.ownsTuple "dict_keyiterator" = false := by decide
  simp only [hown, Bool.false_eq_true, if_false]
  show wpAny _ _ (if (Value.ref d == Value.none) = true then _ else _) _ _ s
  rw [if_neg (show ¬ ((Value.ref d == Value.none) = true) from Bool.false_ne_true)]
  refine wpAny_bind (wpAny_pure ?_)
  refine wpAny_bind (wpAny_dictEntries hod hdd ?_)
  rw [if_neg (by simp)]
  refine wpAny_bind (wpAny_pure ?_)
  refine wpAny_bind (wpAny_dictEpoch hod hdd ?_)
  rw [if_neg (by simp)]
  refine wpAny_pure ?_
  simp only [show ¬ ((i : Int) < 0) from by omega, if_false, Int.toNat_natCast, Array.getElem?_eq_none hge]
  refine wpAny_bind ?_
  first | refine wpAny_bind (wpAny_typeNameOfWhole_keyiter hit.typeIs (wpAny_pure ?_)) | refine wpAny_bind (wpAny_typeNameOf_keyiter hit.typeIs (wpAny_pure ?_))
  show wpAny _ _ (setField (.ref it) 0 .none >>= _) _ _ s
  refine wpAny_bind (wpAny_setField ho hd (by simp) ?_)
  show wpAny _ _ (newExc (.type "StopIteration") [] >>= _) _ _ _
  refine wpAny_bind ?_
  simp only [newExc, newTuple]
  refine wpAny_bind (wpAny_newObj_type ?_ (by size_fits))
  refine wpAny_bind (m := firstArgMember _ _) (wpAny_of_eq (a := Value.none) (by first | rfl | (simp only [firstArgMember]; rfl)) ?_)
  refine wpAny_newObj_type ?_ (by size_fits)
  simp only [raiseNew]
  refine wpAny_bind (wpAny_handled ?_)
  first | rw [show A.in1.handled = none from hh] | rw [hh]
  refine wpAny_bind (wpAny_pure (wpAny_throw ?_))
  exact hE _ _ (((Heap.SameBut.update ..).extBut.push _).push _) ⟨_, Heap.get?_push_size _ rfl, rfl⟩
end
theorem drawsKeys {prog : Program} {w : World} {A : Around} (hh : A.handled = none) (it d : Addr) (hne : d ≠ it) (es : Array DictEntry) (ep : Nat) :
    Draws prog w A it [it, d] es.size (fun i v => ∃ h : i < es.size, v = es[i].key) (fun i h => h.IsKeyIter it d i es.size ep ∧ h.DictRaw d es ep) where
  live := fun _ _ st => let ⟨o, ho, _⟩ := st.1; ⟨o, ho⟩
  frame := fun _ _ _ st hk => ⟨st.1.at fun o e => hk it (by simp) o e, st.2.at fun o e => hk d (by simp) o e⟩
  item := fun i s Q E hi st hQ => by
    refine nextOf_key_item st.1 st.2 hi fun h' hit' hs' => ?_
    exact hQ _ h' s.toks ⟨hi, rfl⟩ ⟨hit', st.2.at fun o e => hs'.extBut d o hne e⟩ hs'
  done := fun s Q E st hE => nextOf_key_end hh st.1 st.2 (Nat.le_refl _) hE
end RfE
namespace Rf
open PySem L2 PySem.Spec PyProof.Rows
/-- the keys of the locked dict at d, each in a new pair with its number -/
def Itek (d : Addr) (o : Obj) (kvs : List (Key × V)) : It :=
  ⟨fun i H => H d = some (.frz o (.dK kvs)) ∧ i < kvs.length, fun i H x H' => ∃ T k v, kvs[i]? = some (k, v) ∧ x = .ref T ∧ H T = none ∧ H' = upd H T (.tup [.int (i : Nat), kV k]), fun i H => H d = some (.frz o (.dK kvs)) ∧ kvs.length ≤ i⟩
theorem frzKE {X : Cx} {pins : List (Addr × Obj)} {σ : L2.St} {H : Hp} {s : Shared} {d : Addr} {o : Obj} {kvs : List (Key × V)} (I : Inv X pins σ H s) (h : H d = some (.frz o (.dK kvs))) :
    (d == sysModules) = false ∧ ∃ (es : Array DictEntry) (ep : Nat), s.heap.DictRaw d es ep ∧ o.data = .dict es ep ∧ es.size = kvs.length ∧ ∀ (i : Nat) (k : Key) (v : V), kvs[i]? = some (k, v) → ∃ en, es[i]? = some en ∧ RelV (kV k) en.key := by
  obtain ⟨hs, hgd, hx, es, ep, vs, hdt, hsz, kv, hm⟩ := I.frzK h
  refine ⟨hs, es, ep, ⟨o, hgd, hx, hdt⟩, hdt, hsz, fun i k v e => ?_⟩
  obtain ⟨u, hu, ru⟩ := kv_get kv e
  obtain ⟨o2, es2, h2, _, hd2, hk, hp, hn⟩ := hm
  rw [hgd] at h2
  cases h2
  obtain ⟨rfl, _⟩ := dict_ep hdt hd2
  have hi : i < es2.size := by
    rw [hsz]
    rcases Nat.lt_or_ge i kvs.length with h | h
    · exact h
    · rw [List.getElem?_eq_none h] at e; cases e
  refine ⟨es2[i], Array.getElem?_eq_getElem hi, relV_key ?_⟩
  exact (hp.get? (e := es2[i]) (by simp [hi]) hu).1
theorem turn_enumK {P : Program} {w : World} {K : PySem.W.Frag} {elts : List Expr} {kk : Nat} {tpos : Pos} {d : Addr} {o : Obj} {es : Array DictEntry} {ep : Nat} {kvs : List (Key × V)} (e it : Addr) (hod : o.data = .dict es ep) (hdi : d ≠ it) (hde : d ≠ e) :
    Turn P w K (.Tuple elts kk tpos) (Itek d o kvs) [e, it] e (fun i h => (∃ old, IsEnum h e it ((i : Nat) : Int) old) ∧ h.IsKeyIter it d i kvs.length ep ∧ e ≠ it ∧ i ≤ kvs.length) where
  mem := by simp
  obj := fun i h st b hb => by
    obtain ⟨⟨old, he⟩, ⟨o, ho, hc, hd⟩, _, _⟩ := st
    have e' : b = e ∨ b = it := by simpa using hb
    rcases e' with z | z
    · rw [z]; exact ⟨_, he, fun v q => nomatch q⟩
    · rw [z]; exact ⟨o, ho, fun v q => by rw [hd] at q; cases q⟩
  keep := fun i h h' st k => let ⟨⟨old, he⟩, hi, hne⟩ := st; ⟨⟨old, k e (by simp) _ he⟩, hi.at fun o q => k it (by simp) o q, hne⟩
  item := by
    intro X hP hw hK hc i pins s σ H E I hf st hg
    subst hP hw hK
    obtain ⟨⟨old, he⟩, hit, hne, hin⟩ := st
    obtain ⟨hd, hi⟩ := hg
    obtain ⟨hs, es', ep', raw, hdt, hsz, ent⟩ := frzKE I hd
    obtain ⟨rfl, rfl⟩ := dict_ep hod hdt
    obtain ⟨⟨k, v⟩, hkv⟩ : ∃ p, kvs[i]? = some p := ⟨kvs[i], List.getElem?_eq_getElem hi⟩
    obtain ⟨en, hen, rk⟩ := ent i k v hkv
    have hi' : i < es'.size := by rw [hsz]; exact hi
    have ev : es'[i] = en := by
      rw [Array.getElem?_eq_getElem hi'] at hen
      exact Option.some.inj hen
    rw [← hsz] at hit
    have hel : e < s.heap.objs.size := Heap.lt_size he
    have hil : it < s.heap.objs.size := by obtain ⟨_, q, _⟩ := hit; exact Heap.lt_size q
    refine wpAny_pyNext_enum_itemD (RfE.drawsKeys (A := X.A.in1) (show X.A.in1.handled = none from I.ok.hd hc) it d hdi es' ep') he ⟨hit, raw⟩ hi' hne (by simp [hne, Ne.symm hde]) fun x h' tk hx ho hst hT hz hk => ?_
    obtain ⟨_, rfl⟩ := hx
    refine ⟨_, rfl, wpAny_letOwnedTupleGo_enum (s := { s with heap := h', toks := tk + 1 }) ho fun h'' he' sb => ?_⟩
    rw [ev] at hT
    have hT2 : h''.get? s.heap.objs.size = some { cls := .type "tuple", data := .seq #[.int i tk, en.key] } := (sb.2 _ (Nat.ne_of_gt hel)).trans hT
    have new : ObjOk X.prog X.w (upd H s.heap.objs.size (.tup [.int (i : Nat), kV k])) h'' s.heap.objs.size (.tup [.int (i : Nat), kV k]) :=
      ⟨by show 2 ≤ sizeLine; decide, [.int i tk, en.key], .cons ⟨_, rfl⟩ (.cons rk .nil), ⟨_, hT2, rfl, _, rfl⟩⟩
    have I1 : Inv X pins σ (upd H s.heap.objs.size (.tup [.int (i : Nat), kV k])) { s with heap := h'', toks := tk + 1 } :=
      I.turnedNew (ch := [e, it]) (fun b ob hb q => (sb.2 b (fun z => hb (by simp [z]))).trans (hk b ob (fun z => hb (by simp [z])) (fun z => hb (by simp [z])) q)) hf (Nat.le_refl _) new
    refine ⟨.ref s.heap.objs.size, _, I1, rfl, ⟨_, k, v, hkv, rfl, I.hok.fresh (Nat.le_refl _), rfl⟩, ⟨⟨es'[i].key, ?_⟩, ?_, hne, by omega⟩, fun b hb => ?_⟩
    · have e1 : ((i + 1 : Nat) : Int) = (i : Int) + 1 := by omega
      rw [e1]; exact he'
    · rw [← hsz]
      exact hst.1.at fun o q => (sb.2 it (Ne.symm hne)).trans q
    · have hb' : b < s.heap.objs.size := by
        have e' : b = e ∨ b = it := by simpa using hb
        rcases e' with z | z
        · rw [z]; exact hel
        · rw [z]; exact hil
      rw [upd_ne (Nat.ne_of_lt hb')]
      exact (hf b hb).1
  done := by
    intro X hP hw hK hc i pins s σ H E I hf st hg
    subst hP hw hK
    obtain ⟨⟨old, he⟩, hit, hne, hin⟩ := st
    obtain ⟨hd, hi⟩ := hg
    obtain ⟨hs, es', ep', raw, hdt, hsz, ent⟩ := frzKE I hd
    obtain ⟨rfl, rfl⟩ := dict_ep hod hdt
    obtain ⟨f0, f1, f2, f3, f4, f5⟩ := hf it (by simp)
    have e0 : i = es'.size := by rw [hsz]; exact Nat.le_antisymm hin hi
    rw [← hsz] at hit
    subst e0
    exact wpAny_pyNext_enum_endD (RfE.drawsKeys (A := X.A.in1) (show X.A.in1.handled = none from I.ok.hd hc) it d hdi es' ep') he ⟨hit, raw⟩ fun h' eb => ⟨rfl, I.turned (t' := s.toks) (fun b o hb q => eb b o hb q) f0 f1 f3 f4 f5⟩
  self := fun A i s Q E st h => let ⟨⟨_, he⟩, _⟩ := st; wpAny_pyIter_enum he h
def iEnumU (K : PySem.W.Frag) (ta : TA) : TI := fun σ H R => ta σ H fun vs H1 => (∃ a xs, vs = [.ref a] ∧ SqL K H1 a xs ∧ R (Ite K a) H1) ∨ (∃ d o kvs, vs = [.ref d] ∧ H1 d = some (.frz o (.dK kvs)) ∧ R (Itek d o kvs) H1) ∨ ∃ a xs, vs = [.ref a] ∧ SqT K H1 a xs ∧ R (IteT K a) H1
theorem pi_enumU {X : Cx} {e : Expr} {ta : TA} {p pos tpos : Pos} {elts : List Expr} {kk : Nat} (hg : Gl X "enumerate") (hm : X.mg "enumerate" = none) (ha : PA X [e] ta) (hs : starEach [e] X.env = [(false, eval e X.env)] := by rfl) :
    PI X (.Tuple elts kk tpos) (.Call (.Name "enumerate" p) [e] [] pos) (iEnumU X.K ta) := by
  refine ⟨fun pins s σ H R I h => ?_⟩
  refine Call_ (ld_blt I hg hm boot_enumerate (PyProof.Rows.callWith_type1 (thn (ha.run pos pins s σ H _ I h) fun us s1 ⟨vs, H1, I1, r1, q1⟩ => ?_) hs rfl))
  rcases q1 with ⟨a, xs, ex, hq, q⟩ | ⟨d, o, kvs, ex, hd, q⟩ | ⟨a, xs, ex, hq, q⟩
  · subst ex
    cases r1 with
    | cons r rr =>
      cases rr
      cases r
      obtain ⟨its, rv, p', hz⟩ := I1.list hq
      refine call_enumerate_list p'.isList fun h' he hit hsz hk => wpAny_pyIter_enum he ?_
      have I2 : Inv X pins σ H1 { s1 with heap := h' } := I1.kept (t' := s1.toks) hk
      refine ⟨s1.heap.objs.size + 1, [s1.heap.objs.size + 1, s1.heap.objs.size], _, _, H1, rfl, I2, turn_enum a (s1.heap.objs.size + 1) s1.heap.objs.size, ⟨⟨.none, he⟩, hit, Nat.succ_ne_self _⟩, fun b hb => ?_, q⟩
      have e' : b = s1.heap.objs.size + 1 ∨ b = s1.heap.objs.size := by simpa using hb
      have hle : s1.heap.objs.size ≤ b := by
        rcases e' with z | z
        · rw [z]; exact Nat.le_add_right _ _
        · rw [z]; exact Nat.le_refl _
      exact I1.fpOk hle (I1.hok.fresh hle)
  · subst ex
    cases r1 with
    | cons r rr =>
      cases rr
      cases r
      obtain ⟨hs', es, ep, raw, hdt, hsz0, ent⟩ := frzKE I1 hd
      have hdl : d < s1.heap.objs.size := by obtain ⟨_, x, _⟩ := raw; exact Heap.lt_size x
      refine RfE.call_enumerate_dict hs' raw fun h' he hit hsz hk => wpAny_pyIter_enum he ?_
      have I2 : Inv X pins σ H1 { s1 with heap := h' } := I1.kept (t' := s1.toks) hk
      refine ⟨s1.heap.objs.size + 1, [s1.heap.objs.size + 1, s1.heap.objs.size], _, _, H1, rfl, I2, turn_enumK (s1.heap.objs.size + 1) s1.heap.objs.size hdt (Nat.ne_of_lt hdl) (Nat.ne_of_lt (Nat.lt_succ_of_lt hdl)), ⟨⟨.none, he⟩, ?_, Nat.succ_ne_self _, Nat.zero_le _⟩, fun b hb => ?_, q⟩
      · rw [← hsz0]; exact hit
      have e' : b = s1.heap.objs.size + 1 ∨ b = s1.heap.objs.size := by simpa using hb
      have hle : s1.heap.objs.size ≤ b := by
        rcases e' with z | z
        · rw [z]; exact Nat.le_add_right _ _
        · rw [z]; exact Nat.le_refl _
      exact I1.fpOk hle (I1.hok.fresh hle)
  · subst ex
    cases r1 with
    | cons r rr =>
      cases rr
      cases r
      obtain ⟨its, rv, p', hz⟩ := I1.tuple hq
      have p' : s1.heap.IsTuple a its.toArray := p'
      have la : a < s1.heap.objs.size := by obtain ⟨_, x, _⟩ := p'; exact Heap.lt_size x
      refine own_enum_begins (begins_tuple a its.toArray) p' fun h' he g1 hsz hk => wpAny_pyIter_enum he ?_
      have I2 : Inv X pins σ H1 { s1 with heap := h' } := I1.kept (t' := s1.toks) hk
      refine ⟨s1.heap.objs.size + 1, [s1.heap.objs.size + 1, s1.heap.objs.size], _, _, H1, rfl, I2, turn_enumT (Nat.ne_of_lt la) (Nat.succ_ne_self _) (Nat.ne_of_gt (Nat.lt_succ_of_lt la)), ⟨⟨.none, he⟩, ⟨_, g1, rfl, rfl⟩⟩, fun b hb => ?_, q⟩
      have e' : b = s1.heap.objs.size + 1 ∨ b = s1.heap.objs.size := by simpa using hb
      have hle : s1.heap.objs.size ≤ b := by
        rcases e' with z | z
        · rw [z]; exact Nat.le_add_right _ _
        · rw [z]; exact Nat.le_refl _
      exact I1.fpOk hle (I1.hok.fresh hle)
end Rf
/-! sum(d.values()); d.pop((a, b)); dict methods by values. -/
namespace Rf
open PySem L2 PySem.Spec PyProof.Rows
theorem KT.drop {H : Hp} {kvs : List (List Key × V)} {xs : List (List Key × Addr × Value)} (r : KT H kvs xs) (k : List Key) : KT H (dropK kvs k) (DT.dropH xs k) := by
  induction r with
  | nil => exact .nil
  | @cons p q ps qs h t ih =>
    show KT H (List.filter _ (p :: ps)) (List.filter _ (q :: qs))
    by_cases e : p.1 = k
    · rw [List.filter_cons_of_neg (by simp [e]), List.filter_cons_of_neg (by simp [← h.1, e])]
      exact ih
    · rw [List.filter_cons_of_pos (by simp [e]), List.filter_cons_of_pos (by simp [← h.1, e])]
      exact .cons h ih
section
open PySem.W
variable {K : Type} [DecidableEq K] {prog : Program} {w : World} {knd : HeapKind prog w K}
theorem meetsPop1 {d b : Addr} {k : K} (hd : (d == sysModules) = false) :
    MeetsIn prog w (Builtin.«dict.pop» ⟨[.ref d, .ref b], []⟩) (fun A R s => ∃ xs p, knd.room A.in1 ∧ knd.is s.heap k b ∧ s.heap.DictOfH knd d xs ∧ xs.length ≤ sizeLine ∧ atKey xs k = some p ∧
      ∀ h' tk, h'.DictOfH knd d (DT.dropH xs k) → Heap.SameBut d s.heap h' → R (.ok (.ret p.2)) { s with heap := h', toks := tk }) :=
  .of_wp fun A R s ⟨xs, p, hu, hkey, hm, hsz, hp, hsome⟩ => by
    obtain ⟨o, es, ep, ho, hc, hdat, he, his, hn⟩ := id hm
    have hes : es.size = xs.length := size_of_entries he
    have hpart : (keyPart (Value.ref b)).isSome = false := rfl
    unfold Builtin.«dict.pop»
    refine wpAny_bind ?_
    unfold Builtin.Dict.keyAndDefault
    refine wpAny_bind (wpAny_notOrdered_dict hm.typeIs ?_)
    show wpAny _ _ (pure (d, Value.ref b, none)) _ _ s
    refine wpAny_pure ?_
    simp only [hpart, Bool.false_eq_true, if_false]
    refine wpAny_bind (wpAny_dictEntries ho hdat (wpAny_bind (wpAny_pure ?_)))
    cases hem : es.isEmpty with
    | true =>
      have h0 : xs = [] := by
        have z : es.size = 0 := by simpa using hem
        exact List.length_eq_zero_iff.mp (by omega)
      rw [h0] at hp
      cases hp
    | false =>
      simp only [Bool.false_eq_true, if_false]
      refine wpAny_bind (DT.takeH hu hkey hm hsz (fun hno => ?_) fun p' e hp' hev h' hm' hs' => ?_)
      · rw [hp] at hno; cases hno
      · rw [hp] at hp'
        cases hp'
        simp only [Option.isNone_some, Bool.false_eq_true, if_false]
        exact wpAny_bind (wpAny_letGo (wpAny_pure ⟨e.val, rfl, by rw [hev]; exact hsome h' _ hm' hs'⟩))
end
section
variable {X : Cx} {pins : List (Addr × Obj)} {σ : L2.St} {H : Hp} {s : Shared} {a b : Addr} {v : V} {A : Around} {E : Value → Shared → Prop}
theorem d_popT {kvs : List (List Key × V)} {k : List Key} {Q : Value → Shared → Prop} (hu : A.units + 2 < cLine) (I : Inv X pins σ H s) (e : H a = some (.dT kvs)) (eb : H b = some (.tup (k.map kV))) (l : valV kvs k = some v)
    (h : ∀ w' s', Inv X pins σ (L2.upd H a (.dT (dropK kvs k))) s' → RelV v w' → Q w' s') : wpAny (model X.prog X.w) A (call (.builtin "dict.pop") [.ref a, .ref b]) Q E s := by
  obtain ⟨z, hd, xs, rel, dd⟩ := dt_of I.hok e
  obtain ⟨w', hw, rw'⟩ := RelO.some_of (v := v) (o := (atKey xs k).map (·.2)) (by rw [← l]; exact rel.val k)
  obtain ⟨p, hp, hp2⟩ := Option.map_eq_some_iff.mp hw
  refine call_meetsIn PySem.F.slot_dict_pop dd.typeIs PySem.F.entry_dict_pop (PySem.F.args_dict_pop_2 _ _) (meetsPop1 (knd := tupleKind (mixKind X.prog X.w)) hd)
    ⟨xs, p, tupleKind_room_in1 (by omega), key_of I.hok eb, dd, by rw [← Paired.length rel]; exact z, hp, fun h' tk dd' hs => ?_⟩
  rw [hp2]
  refine h w' _ ?_ rw'
  obtain ⟨q, es, ep, hq, h2, h3, h4, _, h5⟩ := dd'
  refine d_write I (by rw [e]; exact True.intro) hs ⟨q, hq⟩ ⟨Nat.le_trans (List.length_filter_le _ _) z, hd, _, (KT.drop rel k).keeps fun c ys ec => ?_, q, es, ep, hq, h2, h3, h4, h5⟩
  rw [upd_ne (ne_of ec e (fun z => nomatch z))]
  exact ec
end
/-! ### sums of values -/
theorem preSum_list (is : List Int) : preSum (fun i => is.getD i 0) is.length = is.sum := by
  have h : ∀ j, preSum (fun i => is.getD i 0) j = (is.take j).sum := by
    intro j
    induction j with
    | zero => simp [preSum]
    | succ j ih => rw [preSum, ih, PySem.sum_take_succ]
  rw [h, List.take_of_length_le (Nat.le_refl _)]
/-- a dict's values, all whole numbers -/
def DInts (H : Hp) (a : Addr) (is : List Int) : Prop := (∃ kvs, H a = some (.dK kvs) ∧ kvs.map (·.2) = is.map V.int) ∨ ∃ kvs, H a = some (.dT kvs) ∧ kvs.map (·.2) = is.map V.int
theorem dInts_raw {X : Cx} {pins : List (Addr × Obj)} {σ : L2.St} {H : Hp} {s : Shared} {a : Addr} {is : List Int} (I : Inv X pins σ H s) (h : DInts H a is) :
    (a == sysModules) = false ∧ ∃ es ep, s.heap.DictRaw a es ep ∧ es.size = is.length ∧ ∀ i (hi : i < es.size), ∃ t, es[i].val = .int (is.getD i 0) t := by
  have key : ∀ {κ : Type} {kvs : List (κ × V)} {i : Nat} {k : κ} {v : V}, kvs.map (·.2) = is.map V.int → kvs[i]? = some (k, v) → v = .int (is.getD i 0) := by
    intro κ kvs i k v e hk
    have e1 : (kvs.map (·.2))[i]? = some v := by rw [List.getElem?_map, hk] <;> rfl
    rw [e, List.getElem?_map] at e1
    obtain ⟨j, hj, e2⟩ := Option.map_eq_some_iff.mp e1
    rw [← e2, List.getD_eq_getElem?_getD, hj] <;> rfl
  rcases h with ⟨kvs, e, hv⟩ | ⟨kvs, e, hv⟩
  · obtain ⟨z, hd, vs, rel, o, es, ep, ho, hx, hdt, hk, hp, hn⟩ := dk_of I.hok e
    have hl : is.length = kvs.length := by have := congrArg List.length hv; simpa using this.symm
    have hl2 : es.size = is.length := by
      have l1 := hp.length
      have l2 : kvs.length = vs.length := Paired.length rel
      rw [Array.length_toList] at l1
      omega
    refine ⟨hd, es, ep, ⟨o, ho, hx, hdt⟩, hl2, fun i hi => ?_⟩
    obtain ⟨⟨k, v⟩, hkv⟩ : ∃ p, kvs[i]? = some p := ⟨kvs[i]'(by omega), List.getElem?_eq_getElem (by omega)⟩
    obtain ⟨u, hu, ru⟩ := kv_get rel hkv
    have ev := (hp.get? (e := es[i]) (by simp [hi]) hu).2
    rw [key hv hkv] at ru
    obtain ⟨t, rt⟩ := ru
    exact ⟨t, ev.trans rt⟩
  · obtain ⟨z, hd, xs, rel, o, es, ep, ho, hx, hdt, he, _, hn⟩ := dt_of I.hok e
    have hl : is.length = kvs.length := by have := congrArg List.length hv; simpa using this.symm
    have hl2 : es.size = is.length := by
      have l1 : es.size = xs.length := size_of_entries he
      have l2 : kvs.length = xs.length := Paired.length rel
      omega
    refine ⟨hd, es, ep, ⟨o, ho, hx, hdt⟩, hl2, fun i hi => ?_⟩
    obtain ⟨⟨k, v⟩, hkv⟩ : ∃ p, kvs[i]? = some p := ⟨kvs[i]'(by omega), List.getElem?_eq_getElem (by omega)⟩
    obtain ⟨b, hb, e1, e2, e3⟩ := paired_get rel hkv
    have q := entry_at he i
    rw [hb, Array.getElem?_eq_getElem hi] at q
    have ev : es[i].val = b.2.2 := by
      have q2 := Option.some.inj q
      rw [q2] <;> rfl
    rw [key hv hkv] at e3
    obtain ⟨t, rt⟩ := e3
    exact ⟨t, ev.trans rt⟩
def tSumVals (td : TE) : TE := fun σ H Q => td σ H fun x H1 => ∃ a is, x = .ref a ∧ DInts H1 a is ∧ Q (.int is.sum) H1
theorem pe_sumVals {X : Cx} {o : Expr} {p pos apos mpos : Pos} {td : TE} (hc : X.calm = true) (hg : Gl X "sum") (hm : X.mg "sum" = none) (hd : PE X o td) (hbase : attributeBase o "values" X.env (eval o X.env) = eval o X.env := by rfl) (hline : (apos.endLine == mpos.line) = true := by rfl)
    (hse : starEach [Expr.Call (.Attribute o "values" apos) [] [] mpos] X.env = [(false, eval (Expr.Call (.Attribute o "values" apos) [] [] mpos) X.env)] := by rfl) :
    PE X (.Call (.Name "sum" p) [.Call (.Attribute o "values" apos) [] [] mpos] [] pos) (tSumVals td) := by
  refine ⟨fun pins s σ H Q I h => ?_⟩
  refine wpAny_Call_Name_kw (ld_blt I hg hm (u := .builtin "sum") (by first | rfl | decide +kernel) ?_ (by first | decide +kernel | decide) (by first | decide +kernel | decide))
  rw [hse]
  refine PySem.callWith_builtin1 (wpAny_Call_method0_late hbase hline (thn (hd.run pins s σ H _ I h) fun v s1 ⟨x, H1, I1, r1, a, is, ex, ha, q⟩ => ?_))
  subst ex
  obtain rfl : v = Value.ref a := r1
  obtain ⟨hsys, es, ep, raw, hsz, hval⟩ := dInts_raw I1 ha
  refine ⟨"dict", "dict.values", F.plainAttrs_dict, F.slot_dict_values, F.type_dict_values, Heap.DictRaw.typeIs raw, rawNoDict raw, Calls.callWith_builtin rfl (PySem.evalArgs_none ?_)⟩
  refine call_meetsIn F.slot_dict_values (Heap.DictRaw.typeIs raw) F.entry_dict_values (F.args_dict_values_1 _) (meets_dict_values_raw a hsys) ⟨⟨es, ep, raw⟩, ?_⟩
  have k1 : ∀ b u, s1.heap.get? b = some u → (s1.heap.push { cls := .type "dict_values", data := .fields #[.ref a] }).get? b = some u := fun b u e => Heap.get?_push_of_some _ e
  have raw1 : (s1.heap.push { cls := .type "dict_values", data := .fields #[.ref a] }).DictRaw a es ep := raw.at fun o e => k1 a o e
  have hlt : a < s1.heap.objs.size := by obtain ⟨_, x, _⟩ := raw; exact Heap.lt_size x
  have hsz1 : (s1.heap.push { cls := .type "dict_values", data := .fields #[.ref a] }).objs.size = s1.heap.objs.size + 1 := Heap.size_push _ _
  refine call_sum_walkG (wpAny_pyIter_values_raw (v := s1.heap.objs.size) (d := a) ⟨_, Heap.get?_push_size _ rfl, rfl, rfl⟩ raw1 ?_)
  refine ⟨_, _, _, _, _, _, fun i => is.getD i 0, rfl, Walks.rawValues (A := X.A.in1) (show X.A.in1.handled = none from I.ok.hd hc) (s1.heap.push { cls := .type "dict_values", data := .fields #[.ref a] }).objs.size a (by rw [hsz1]; exact Nat.ne_of_lt (Nat.lt_succ_of_lt hlt)) es ep,
    ⟨⟨_, Heap.get?_push_size _ rfl, rfl, rfl⟩, raw1.at fun u e => Heap.get?_push_of_some _ e⟩, fun b hb => ?_, fun i v ⟨hi, ev⟩ => by rw [ev]; exact hval i hi, fun h' tk t' hk => ?_⟩
  · have e : b = (s1.heap.push { cls := .type "dict_values", data := .fields #[.ref a] }).objs.size ∨ b = a := by simpa using hb
    rw [Heap.size_push]
    rcases e with e | e
    · rw [e]; exact Nat.lt_succ_self _
    · rw [e, hsz1]; exact Nat.lt_succ_of_lt (Nat.lt_succ_of_lt hlt)
  · rw [hsz, preSum_list]
    refine ⟨.int is.sum, H1, I1.kept fun b o e => hk b o ?_ (Heap.get?_push_of_some _ (k1 b o e)), ⟨t', rfl⟩, q⟩
    have hb := Heap.lt_size e
    simp only [List.mem_singleton]
    rw [hsz1]
    exact Nat.ne_of_lt (Nat.lt_succ_of_lt hb)
/-! ### methods -/
def rDGetM : V → List V → Hp → VK → Prop := fun x xs H Q => match xs with
  | [y] => ∃ a o, x = .ref a ∧ DGet H a y o ∧ Q (o.getD .non) H
  | [y, z] => ∃ a o, x = .ref a ∧ DGet H a y o ∧ Q (o.getD z) H
  | _ => False
theorem mt_dget {X : Cx} (hu : X.A.units + 1 < cLine) : MtR X "dict.get" rDGetM := by
  intro pins s σ H x xs v us Q I rx rs h
  unfold rDGetM at h
  split at h
  · obtain ⟨a, o, rfl, g, q⟩ := h
    cases rx
    cases rs with
    | cons ry rt =>
      cases rt
      exact d_get1 hu I g ry fun w' s' I' rw' => ⟨_, H, I', rw', q⟩
  · obtain ⟨a, o, rfl, g, q⟩ := h
    cases rx
    cases rs with
    | cons ry rt =>
      cases rt with
      | cons rz rt =>
        cases rt
        exact d_get2 hu I g ry rz fun w' s' I' rw' => ⟨_, H, I', rw', q⟩
  · exact h.elim
def rDPopM : V → List V → Hp → VK → Prop := fun x xs H Q => ∃ a y v, x = .ref a ∧ xs = [y] ∧
  ((∃ kvs k, H a = some (.dK kvs) ∧ y = kV k ∧ valV kvs k = some v ∧ Q v (L2.upd H a (.dK (dropK kvs k)))) ∨ ∃ kvs k b, H a = some (.dT kvs) ∧ y = .ref b ∧ H b = some (.tup (k.map kV)) ∧ valV kvs k = some v ∧ Q v (L2.upd H a (.dT (dropK kvs k))))
theorem mt_dpop {X : Cx} (hu : X.A.units + 2 < cLine) : MtR X "dict.pop" rDPopM := by
  intro pins s σ H x xs u us Q I rx rs h
  obtain ⟨a, y, v, rfl, rfl, h⟩ := h
  cases rx
  cases rs with
  | cons ry rt =>
    cases rt
    rcases h with ⟨kvs, k, e, rfl, l, q⟩ | ⟨kvs, k, b, e, rfl, eb, l, q⟩
    · exact d_pop I e ry l (.inl rfl) fun w' s' I' rw' => ⟨_, _, I', rw', q⟩
    · cases ry
      exact d_popT hu I e eb l fun w' s' I' rw' => ⟨_, _, I', rw', q⟩
def rDClearM : V → List V → Hp → VK → Prop := fun x xs H Q => (∃ a kvs, x = .ref a ∧ xs = [] ∧ H a = some (.dK kvs) ∧ Q .non (L2.upd H a (.dK []))) ∨
  ∃ a kvs, x = .ref a ∧ xs = [] ∧ H a = some (.dT kvs) ∧ Q .non (L2.upd H a (.dT []))
theorem d_clearT {X : Cx} {pins : List (Addr × Obj)} {σ : L2.St} {H : Hp} {s : Shared} {a : Addr} {kvs : List (List Key × V)} {E : Value → Shared → Prop} {Q : Value → Shared → Prop} (I : L2.Inv X pins σ H s) (e : H a = some (.dT kvs)) (h : ∀ s', L2.Inv X pins σ (L2.upd H a (.dT [])) s' → Q .none s') : wpAny (model X.prog X.w) X.A (call (.builtin "dict.clear") [.ref a]) Q E s := by
  obtain ⟨z, hs0, ks, pr, o, es, ep, ho, hx, hdt, hee, hn⟩ := (show ObjOk X.prog X.w H s.heap a (.dT kvs) from I.hok a _ e)
  have l1 : es.size = ks.length := size_of_entries hee
  have l2 : kvs.length = ks.length := Paired.length pr
  have raw : s.heap.DictRaw a es ep := ⟨o, ho, hx, hdt⟩
  refine call_meetsIn PySem.F.slot_dict_clear raw.typeIs PySem.F.entry_dict_clear (PySem.F.args_dict_clear_1 _) (meets_dict_clear_raw a) ⟨es, ep, raw, by omega, fun h' dd' hs => h _ ?_⟩
  obtain ⟨o', ho', hx', hd'⟩ := dd'
  exact d_write (t' := s.toks) I (by rw [e]; exact True.intro) hs ⟨o', ho'⟩ ⟨Nat.zero_le _, hs0, [], .nil, o', _, _, ho', hx', hd', rfl, List.nodup_nil⟩
theorem mt_dclear {X : Cx} : MtR X "dict.clear" rDClearM := by
  intro pins s σ H x xs u us Q I rx rs h
  rcases h with ⟨a, kvs, rfl, rfl, e, q⟩ | ⟨a, kvs, rfl, rfl, e, q⟩
  · cases rx
    cases rs
    exact d_clear I e fun s' I' => ⟨.non, _, I', rfl, q⟩
  · cases rx
    cases rs
    exact d_clearT I e fun s' I' => ⟨.non, _, I', rfl, q⟩
def rDUpdM : V → List V → Hp → VK → Prop := fun x xs H Q => ∃ a b kvs more, x = .ref a ∧ xs = [.ref b] ∧ a ≠ b ∧ H a = some (.dK kvs) ∧ Rd H b (.dK more) ∧ kvs.length + more.length ≤ sizeLine ∧ Q .non (L2.upd H a (.dK (mergeK kvs more)))
theorem mt_dupd {X : Cx} : MtR X "dict.update" rDUpdM := by
  intro pins s σ H x xs u us Q I rx rs h
  obtain ⟨a, b, kvs, more, rfl, rfl, ne, e, eb, z2, q⟩ := h
  cases rx
  cases rs with
  | cons ry rt =>
    cases rt
    cases ry
    obtain ⟨z, hd, vs, rel, dd⟩ := dk_of I.hok e
    obtain ⟨zb, hb, rs, relb, ddb⟩ := dk_rd I.hok eb
    refine call_meetsIn PySem.F.slot_dict_update dd.typeIs PySem.F.entry_dict_update (PySem.F.args_dict_update_2 _ _) (meets_dict_update (mixKind X.prog X.w) a b ne hb) ⟨vs, rs, dd, ddb, by rw [← rel.length, ← relb.length]; exact z2, fun h' dd' _ hs => ?_⟩
    have he : ∃ q, h'.get? a = some q := let ⟨q, _, _, hq, _⟩ := dd'; ⟨q, hq⟩
    exact ⟨.non, _, d_write I (by rw [e]; exact True.intro) hs he (dk_new (Nat.le_trans (length_mergeK more kvs) z2) hd (KV.merge relb rel) dd'), rfl, q⟩
/-- list(d) -/
def rListDU (K : PySem.W.Frag) : List V → Hp → VK → Prop := fun xs H Q => rListD xs H Q ∨ (∃ d kvs, xs = [V.ref d] ∧ Rd H d (.dT kvs) ∧ ∀ p bs, H p = none → IsKeys H kvs bs → Q (.ref p) (L2.upd H p (.lst (bs.map V.ref)))) ∨
  ∃ p ys, xs = [.ref p] ∧ (SqL K H p ys ∨ SqT K H p ys) ∧ ∀ l, H l = none → Q (.ref l) (L2.upd H l (.lst ys))
theorem call_listDU {X : Cx} (hc : X.calm = true) : CallR X (.type "list") (rListDU X.K) := callOr (call_list_dK hc) (callOr (call_list_dT hc) call_list_of)
end Rf
/-! Calls whose surroundings are known to guard nothing (repr of lists and tuples asks that). -/
namespace Rf
open PySem L2 PySem.Spec PyProof.Rows
structure RoomG (k : Nat) (A : Around) : Prop where
  rm : Room k A
  gd : A.guards = some []
theorem RoomG.mono {j k : Nat} {A : Around} (r : RoomG k A) (h : j ≤ k) : RoomG j A := ⟨r.rm.mono h, r.gd⟩
theorem RoomG.deeper {k : Nat} {A : Around} (r : RoomG (k + 1) A) (env : Env) : RoomG k (A.deeper env) := ⟨r.rm.deeper env, r.gd⟩
theorem RoomG.make {k : Nat} {A : Around} (r : RoomG (k + 1) A) (C : Addr) (us : List Value) (kw : List (Str × Value)) : RoomG k (A.under (.builtin "type.__call__" ⟨.ref C :: us, kw⟩)) := by
  refine ⟨r.rm.make C us kw, ?_⟩
  have g := r.gd
  first | exact g | (simp only [Around.under]; exact g) | (unfold Around.under; rw [g]; rfl) | (simp [Around.under, g]; done)
theorem RoomG.un {k : Nat} {A : Around} (r : RoomG k A) : A.units + 16 * k + 200 < cLine := r.rm.un
/-- what a def promises, called where nothing is guarded -/
structure FnOkG (P : Program) (w : World) (K : PySem.W.Frag) (mg : Str → Option Value) (base : Heap) (CX : CXT) (k : Nat) (f : Addr) (fd : FuncData) (ps : List Str) (sp : Sp) : Prop where
  len : ∀ vs H Q E, sp vs H Q E → vs.length = ps.length
  run : ∀ (A : Around) (outer : List Env) (s : Shared) (H : Hp) (args : Args) (us : List Value) (vs : List V) (Q : VK) (E : XK), RoomG k A → Env0 P w K mg base A outer s H → BindsTo s fd args (ps.zip us) → Vals vs us → sp vs H Q E →
    codeAny (model P w) A (.call (.ref f) args) (CR CX outer P w H s Q E) s
theorem fn_ofG {CX : CXT} {P : Program} {w : World} {K : PySem.W.Frag} {mg : Str → Option Value} {base : Heap} {k : Nat} {f : Addr} {name qual : Str} {params : Arguments} {body : List Stmt} {scope : Scope} {dV kV doc pm cdv ct oc : Value} {an od : Option Addr}
    {osl : Array (Option Value)} {N ps : List Str} {sp : Sp} (lk : K.lookup f = some ⟨oc, od, .func (PySem.W.fnOf name qual params body scope dV kV doc pm an cdv ct), osl⟩) (hcd : PySem.W.codeIn K cdv qual = true) (S : FnScope N ps scope)
    (len : ∀ vs H Q E, sp vs H Q E → vs.length = ps.length)
    (hbody : ∀ (A : Around) (outer : List Env) (s : Shared) (H : Hp) (vs : List V) (Q : VK) (E : XK), RoomG k (A.deeper (envOfC qual scope s.heap.objs.size f cdv)) → sp vs H Q E →
      ∃ t, PSs (cxOf CX P w K mg base N qual scope f cdv A outer s H E) body t ∧ t { nx := fun _ H' => Q .non H', rt := Q } (start N vs) H) :
    FnOkG P w K mg base CX (k + 1) f (PySem.W.fnOf name qual params body scope dV kV doc pm an cdv ct) ps sp := by
  refine ⟨len, fun A outer s H args us vs Q E hr e0 hb r hsp => ?_⟩
  have hl := len _ _ _ _ hsp
  have KX : K.In s.heap := e0.mod.kin.keeps fun b o e => (e0.bs b o e).1
  have lim : s.heap.NoLimit := e0.mod.nolimit.keeps fun b o e => (e0.bs b o e).1
  have hkind : ∀ y ∈ ps.zip us, scope.names.lookup y.1 = some .local ∨ (scope.names.lookup y.1 = some .cell ∧ ((cellsFrom (s.heap.objs.size + 1) scope.names []).lookup y.1).isSome = true) := fun ⟨n, v⟩ hy => by
    rcases S.par n (List.of_mem_zip hy).1 with q | q
    · exact .inl q
    · exact .inr ⟨q, PySem.W.cellsFrom_some _ _ _ (.inl q)⟩
  refine codeAny_call_function hr.rm.depth (KX _ _ lk) rfl S.co S.gen rfl (PySem.W.codeRec_of KX hcd) (hb _ _ _ _ ?_)
  refine wpAny_newFunctionEnv_cells S.kind hkind fun env he s1 x => ?_
  subst he
  refine ⟨lim.keeps x.toInCall.keep, codeAny_func ?_⟩
  obtain ⟨t, ht, hq⟩ := hbody A outer s H vs Q E (hr.deeper _) hsp
  have I : Inv (cxOf CX P w K mg base N qual scope f cdv A outer s H E) [] (start N vs) H s1 := inv_start S hr.rm.hd e0 hl r x
  refine wpAny_mono (ht.run [] s1 (start N vs) H _ I hq) (fun fl s' hs => ?_) fun e s' hs => hs
  have fin : ∀ {σ' : L2.St} {H' : Hp} {v : V} {u : Value}, Inv (cxOf CX P w K mg base N qual scope f cdv A outer s H E) [] σ' H' s' → RelV v u → Q v H' → CE outer P w H s Q u s' :=
    fun {σ' H' v u} J rv q => ⟨v, H', J.os, J.bare, J.base, J.hok, rv, q⟩
  cases fl with
  | ret u =>
    obtain ⟨v, σ', H', J, rv, q⟩ := hs
    exact fin J rv q
  | next =>
    obtain ⟨σ', H', J, q⟩ := hs
    exact fin (v := V.non) (u := Value.none) J rfl q
  | brk =>
    obtain ⟨_, _, _, q⟩ := hs
    exact False.elim q
  | cont =>
    obtain ⟨_, _, _, q⟩ := hs
    exact False.elim q
section
variable {P : Program} {w : World} {K : PySem.W.Frag} {mg : Str → Option Value} {base : Heap} {x qual : Str} {params : Arguments} {body : List Stmt} {scope : Scope} {dvs : List V} {kws : List (Str × V)} {f : Addr} {fd : FuncData}
theorem funD_okG {CX : CXT} {N ps : List Str} {k : Nat} {sp : Sp} (F : FunD K x qual params body scope dvs kws f fd) (S : FnScope N ps scope) (len : ∀ vs H Q E, sp vs H Q E → vs.length = ps.length)
    (hbody : ∀ (cdv : Value) (A : Around) (outer : List Env) (s : Shared) (H : Hp) (vs : List V) (Q : VK) (E : XK), RoomG k (A.deeper (envOfC qual scope s.heap.objs.size f cdv)) → sp vs H Q E →
      ∃ t, PSs (cxOf CX P w K mg base N qual scope f cdv A outer s H E) body t ∧ t { nx := fun _ H' => Q .non H', rt := Q } (start N vs) H) : FnOkG P w K mg base CX (k + 1) f fd ps sp := by
  obtain ⟨oc, od, dV, kV, doc, pm, an, cdv, ct, osl, rfl, lk, hcd, _, _⟩ := F.ex
  exact fn_ofG lk hcd S len fun A outer s H vs Q E hr hsp => hbody cdv A outer s H vs Q E hr hsp
end
section
variable {X : Cx} {CX : CXT} {k : Nat} {f : Addr} {fd : FuncData} {ps : List Str} {sp : Sp} {dvs : List V} {ds : List Value} {E : L2.St → XK} {x : Str} {p pos : Pos} {e : Expr} {es : List Expr} {t : TA}
theorem run_fnSDG {pins : List (Addr × Obj)} {σ : L2.St} {H : Hp} {s : Shared} {Q : VK} {us : List Value} {vs : List V} (F : FnOkG X.prog X.w X.K X.mg X.base CX k f fd ps sp) (hr : RoomG k X.A) (hb : Binds X.K fd ps ds) (hd : Vals dvs ds) (hx : PassesAt CX X σ (E σ))
    (I : Inv X pins σ H s) (r : Vals vs us) (h : sp (vs ++ dvs) H Q (E σ)) : wpAny (model X.prog X.w) X.A (call (.ref f) us) (EP X pins σ Q) X.xe s := by
  have r2 : Vals (vs ++ dvs) (us ++ ds) := r.append hd
  have hl : (us ++ ds).length = ps.length := by rw [← r2.length]; exact F.len _ _ _ _ h
  refine wpAny_call (codeAny_mono (F.run X.A X.stack s H ⟨us, []⟩ (us ++ ds) (vs ++ dvs) Q (E σ) hr I.env0 (hb s us I.kIn hl) r2 h) fun r s' hq => ?_)
  cases r with
  | error e => exact hx pins H s e s' I hq
  | ok fl =>
    cases fl with
    | ret u => exact I.after hq
    | next => exact False.elim hq
    | brk => exact False.elim hq
    | cont => exact False.elim hq
theorem pe_callSDG (F : FnOkG X.prog X.w X.K X.mg X.base CX k f fd ps sp) (hr : RoomG k X.A) (hg : Gl X x) (hm : X.mg x = some (.ref f)) (hk : PySem.W.keepIn X.K (.ref f) = true) (hb : Binds X.K fd ps ds) (hd : Vals dvs ds) (hx : ∀ σ, PassesAt CX X σ (E σ))
    (ha : PA X (e :: es) t) (hdb : (x == ("__debug__" : Str)) = false := by decide) (he : starEach (e :: es) X.env = (false, eval e X.env) :: starEach es X.env := by rfl) (hpl : (backTo pos (starEach es X.env)).any (·.1) = false := by rfl) :
    PE X (.Call (.Name x p) (e :: es) [] pos) (tCallSD sp dvs E t) := by
  refine ⟨fun pins s σ H Q I h => ?_⟩
  refine wpAny_Call_Name_kw (ld_glob I hg hm ?_ hdb)
  refine PySem.W.callWith_K (h₀ := X.base) I.ok.mod.kin hk (thn (ha.run pos pins s σ H _ I h) fun us s1 ⟨vs, H1, I1, r, q⟩ => ⟨I1.kIn, ?_⟩) he hpl
  exact run_fnSDG F hr hb hd (hx σ) I1 r q
end
theorem law_callG {P : Program} {w : World} {K : PySem.W.Frag} {mg mb : Str → Option Value} {CX : CXT} {k : Nat} {fa a : Addr} {fd : FuncData} {x : Str} {sp : Sp} {s₁ : Shared} {vs : List Value} {ns : List Int}
    (KX : K.In s₁.heap) (hns : s₁.heap.Ns mainGlobals mg) (hb : s₁.heap.Ns builtinsNs mb) (hbb : ∀ x : Str, x ≠ "__name__" → mb x = bootBuiltins x) (hlim : s₁.heap.NoLimit) (hg : s₁.gens = #[])
    (ha : s₁.heap.get? a = some { cls := .type "list", data := .seq vs.toArray }) (hi : IntsAre vs ns) (hl : ns.length ≤ sizeLine) (hr : RoomG k callerA)
    (F : ∀ base : Heap, K.In base → base.Ns mainGlobals mg → FnOkG P w K mg base CX k fa fd [x] sp) (hbind : ∀ (s : Shared) (u : Value), BindsTo s fd ⟨[u], []⟩ [(x, u)])
    (hsp : ∀ H : Hp, Only H → SqL K H a (ns.map V.int) → sp [.ref a] H (fun v _ => v = .bl true) fun _ _ _ => False)
    (hCX : ∀ H e s', CX [] H s₁ (fun _ _ _ => False) e s' → False) :
    codeAny (model P w) callerA (.call (.ref fa) ⟨[.ref a], []⟩) (fun r s' => r = .ok (.ret (.bool true)) ∧ OldK s₁.heap s'.heap ∧ s'.os = s₁.os ∧ AllBare s'.gens) s₁ := by
  have rv := vals_ints hi
  have lenV := hi.length
  -- from an abstract heap in which nothing but the script may be tracked
  have core : ∀ H : Hp, Only H → SqL K H a (ns.map V.int) → HOk P w H s₁.heap → (∀ b, H b ≠ none → b = a) → (H a ≠ none → K.lookup a = none) →
      codeAny (model P w) callerA (.call (.ref fa) ⟨[.ref a], []⟩) (fun r s' => r = .ok (.ret (.bool true)) ∧ OldK s₁.heap s'.heap ∧ s'.os = s₁.os ∧ AllBare s'.gens) s₁ := by
    intro H hO hS hok hA hK
    have base_of : ∀ {b : Addr} {o : Obj}, s₁.heap.get? b = some o → H b = none → (hidT s₁.heap H).get? b = some o := fun e n => hidT_get e n
    have noA : ∀ {b : Addr} {o : Obj} {es : Array DictEntry} {ep : Nat}, s₁.heap.get? b = some o → o.data = .dict es ep → H b = none := fun {b o es ep} e d => by
      cases q : H b with
      | none => rfl
      | some u =>
        have e' : b = a := hA b (by rw [q]; simp)
        subst e'
        rw [ha] at e; cases e
        have d' : Data.seq vs.toArray _ = Data.dict es ep := d
        cases d'
    have nsK : ∀ {b : Addr} {m : Str → Option Value}, s₁.heap.Ns b m → (hidT s₁.heap H).Ns b m := fun {b m} ⟨o, es, ep, e, d, r⟩ => ⟨o, es, ep, base_of e (noA e d), d, r⟩
    have hKb : K.In (hidT s₁.heap H) := fun b o e => base_of (KX b o e) (by
      cases q : H b with
      | none => rfl
      | some u =>
        have e' : b = a := hA b (by rw [q]; simp)
        subst e'
        rw [hK (by rw [q]; simp)] at e; cases e)
    have hM : Mod K mg (hidT s₁.heap H) := ⟨hKb, nsK hns, ⟨mb, nsK hb, hbb⟩, let ⟨mc, h1, h2⟩ := hlim; ⟨mc, nsK h1, h2⟩⟩
    have e0 : Env0 P w K mg (hidT s₁.heap H) callerA [] s₁ H := ⟨rfl, hM, fun b o e => of_hidT e, Nat.le_of_eq (hidT_size _ _), trivial, fun b hb => absurd (show b ∈ ([] : List Addr) from hb) (by simp), hok, .of_eq hg⟩
    refine codeAny_mono ((F _ hKb (nsK hns)).run callerA [] s₁ H ⟨[.ref a], []⟩ [.ref a] [.ref a] _ _ hr e0 (hbind s₁ (.ref a)) (.cons rfl .nil) (hsp H hO hS)) fun r s' h => ?_
    cases r with
    | error e => exact (hCX H e s' h).elim
    | ok fl =>
      cases fl with
      | next => exact False.elim h
      | brk => exact False.elim h
      | cont => exact False.elim h
      | ret u =>
        obtain ⟨v, H', os, bare, un, hok', r', q⟩ := h
        have q' : v = .bl true := q
        subst q'
        obtain rfl : u = Value.bool true := r'
        refine ⟨rfl, OldK.of_keep fun b o e => ?_, os, bare⟩
        cases q : H b with
        | none => exact un.keep b o e q (by intro z; exact absurd (show b ∈ ([] : List Addr) from z) (by simp)) (by simp)
        | some u =>
          rcases hO b with z | ⟨ob, xs, z⟩
          · rw [q] at z; cases z
          · have z2 := un.frzs b ob _ z
            obtain ⟨e1, _⟩ := hok b _ z
            obtain ⟨e2, _⟩ := hok' b _ z2
            rw [e] at e1; cases e1
            exact e2
  cases hk : K.lookup a with
  | some o =>
    -- the script is one of the module's own objects
    have e := KX a o hk
    rw [ha] at e
    cases e
    refine core (fun _ => none) (fun _ => .inl rfl) (.inr ⟨_, vs.toArray, _, hk, rfl, rfl, rfl, by rw [List.size_toArray, lenV]; exact hl, by simpa using rv⟩) (fun b u z => by have z' : (none : Option HO) = some u := z; cases z') (fun b z => absurd rfl z) fun z => absurd rfl z
  | none =>
    refine core (fun b => if b = a then some (.frz { cls := .type "list", data := .seq vs.toArray } (.lst (ns.map V.int))) else none) (fun b => ?_) (.inl (.inr ⟨{ cls := .type "list", data := .seq vs.toArray }, if_pos rfl⟩)) (fun b u z => ?_) (fun b z => ?_) fun _ => hk
    · by_cases hb : b = a
      · exact .inr ⟨_, _, if_pos hb⟩
      · exact .inl (if_neg hb)
    · by_cases hb : b = a
      · have z' := (if_pos hb).symm.trans z
        cases z'
        subst hb
        exact ⟨ha, by rw [List.length_map]; exact hl, vs, _, rv, ha⟩
      · have z' := (if_neg hb).symm.trans z
        cases z'
    · by_cases hb : b = a
      · exact hb
      · exact absurd (if_neg hb) z
end Rf
/-! repr of lists, tuples and dicts, where nothing is guarded. -/
namespace Rf
open PySem L2 PySem.Spec PyProof.Rows
/-! what is read of the heap, no dict of which is the modules' own -/
mutual
inductive Rw (h : Heap) : Value → PyData → Prop
  | none : Rw h .none .none
  | bool (b : Bool) : Rw h (.bool b) (.bool b)
  | int (i : Int) (t : Tok) : Rw h (.int i t) (.int i)
  | str (x : Str) (t : Tok) : Rw h (.str x t) (.str x)
  | list {a : Addr} {o : Obj} {vs : Array Value} {n : Nat} {xs : List PyData} : h.get? a = some o → o.cls = .type "list" → o.data = .seq vs n → RwAll h vs.toList xs → Rw h (.ref a) (.list xs)
  | tuple {a : Addr} {o : Obj} {vs : Array Value} {n : Nat} {xs : List PyData} : h.get? a = some o → o.cls = .type "tuple" → o.data = .seq vs n → RwAll h vs.toList xs → Rw h (.ref a) (.tuple xs)
  | dict {a : Addr} {o : Obj} {es : Array DictEntry} {n : Nat} {kvs : List (PyData × PyData)} : h.get? a = some o → o.cls = .type "dict" → o.data = .dict es n → (a == sysModules) = false → RwAll h (es.toList.map (·.key)) (kvs.map (·.1)) → RwAll h (es.toList.map (·.val)) (kvs.map (·.2)) → Rw h (.ref a) (.dict kvs)
inductive RwAll (h : Heap) : List Value → List PyData → Prop
  | nil : RwAll h [] []
  | cons {v : Value} {vs : List Value} {d : PyData} {ds : List PyData} : Rw h v d → RwAll h vs ds → RwAll h (v :: vs) (d :: ds)
end
section
variable {prog : Program} {w : World} {h₀ : Heap}
mutual
theorem Rw.reads : ∀ {v : Value} {d : PyData}, Rw h₀ v d → ∃ as, Reads h₀ v d as
  | _, _, .none => ⟨_, .none⟩
  | _, _, .bool b => ⟨_, .bool b⟩
  | _, _, .int i t => ⟨_, .int i t⟩
  | _, _, .str x t => ⟨_, .str x t⟩
  | _, _, .list h1 h2 h3 h4 => let ⟨_, q⟩ := RwAll.reads h4; ⟨_, .list h1 h2 h3 q⟩
  | _, _, .tuple h1 h2 h3 h4 => let ⟨_, q⟩ := RwAll.reads h4; ⟨_, .tuple h1 h2 h3 q⟩
  | _, _, .dict h1 h2 h3 _ h4 h5 => let ⟨_, q⟩ := RwAll.reads h4; let ⟨_, q2⟩ := RwAll.reads h5; ⟨_, .dict h1 h2 h3 q q2⟩
theorem RwAll.reads : ∀ {vs : List Value} {ds : List PyData}, RwAll h₀ vs ds → ∃ as, ReadsAll h₀ vs ds as
  | _, _, .nil => ⟨_, .nil⟩
  | _, _, .cons r rs => let ⟨_, q⟩ := Rw.reads r; let ⟨_, q2⟩ := RwAll.reads rs; ⟨_, .cons q q2⟩
end
mutual
theorem Rw.reprK : ∀ {v : Value} {d : PyData}, Rw h₀ v d → d.showable = true → d.shown.length ≤ sizeLine → ∃ bs, ReadAtMost h₀ d.depth bs ∧ ReprK prog w bs h₀ d.depth v d.shown
  | _, _, .none, _, _ => ⟨[], (fun _ h => nomatch h), by simp only [PyData.shown]; exact .of_is ReprIs.none _ _ _⟩
  | _, _, .bool b, _, _ => ⟨[], (fun _ h => nomatch h), by simp only [PyData.shown]; exact .of_is (ReprIs.bool b) _ _ _⟩
  | _, _, .int i t, hs, _ => ⟨[], (fun _ h => nomatch h), by simp only [PyData.shown]; exact .of_is (ReprIs.int t (by simpa [PyData.showable] using hs)) _ _ _⟩
  | _, _, .str x t, _, hz => ⟨[], (fun _ h => nomatch h), by simp only [PyData.shown]; exact .of_is (ReprIs.str x t (by simpa only [PyData.shown] using hz)) _ _ _⟩
  | _, _, .list (a := a) (vs := vs) (xs := xs) h1 h2 h3 h4, hs, hz => by
    have hz' : (listText (PyData.shownAll xs)).length ≤ sizeLine := by simpa only [PyData.shown] using hz
    obtain ⟨bs, hb, hk⟩ := RwAll.reprK h4 (by simpa [PyData.showable] using hs) (fun t ht => Nat.le_trans (listText_mem_le ht) hz')
    obtain ⟨_, r⟩ := Rw.reads (Rw.list h1 h2 h3 h4)
    have hna : a ∉ bs := not_mem_of_deeper r (by simp only [PyData.depth]; omega) hb
    refine ⟨a :: bs, ReadAtMost.cons r (by simp only [PyData.depth]; omega) hb, ?_⟩
    simp only [PyData.depth, PyData.shown]
    obtain ⟨l⟩ := vs
    cases l with
    | nil =>
      have h4' : RwAll h₀ [] xs := h4
      cases h4'
      simp only [PyData.shownAll, listText_nil]
      exact ReprK.listEmpty h1 h2 h3
    | cons x l => exact ReprK.list h1 h2 h3 hna (by simpa using hk.length_eq) (fun i y e => hk.item i y (by simpa using e))
  | _, _, .tuple (a := a) (xs := xs) h1 h2 h3 h4, hs, hz => by
    have hz' : (tupleText (PyData.shownAll xs)).length ≤ sizeLine := by simpa only [PyData.shown] using hz
    obtain ⟨bs, hb, hk⟩ := RwAll.reprK h4 (by simpa [PyData.showable] using hs) (fun t ht => Nat.le_trans (tupleText_mem_le ht) hz')
    obtain ⟨_, r⟩ := Rw.reads (Rw.tuple h1 h2 h3 h4)
    have hna : a ∉ bs := not_mem_of_deeper r (by simp only [PyData.depth]; omega) hb
    refine ⟨a :: bs, ReadAtMost.cons r (by simp only [PyData.depth]; omega) hb, ?_⟩
    simp only [PyData.depth, PyData.shown]
    exact ReprK.tuple h1 h2 h3 hna hk
  | _, _, .dict (a := a) (es := es) (kvs := kvs) h1 h2 h3 hsys h4 h5, hs, hz => by
    have hz' : (dictText (PyData.shownKv kvs)).length ≤ sizeLine := by simpa only [PyData.shown] using hz
    obtain ⟨hs1, hs2⟩ := PyData.showableKv_split kvs (by simpa [PyData.showable] using hs)
    obtain ⟨b1, hb1, k1⟩ := RwAll.reprK h4 hs1 (fun t ht => let ⟨p, hp, hl⟩ := PyData.shownKv_key_le kvs t ht; Nat.le_trans hl (Nat.le_trans (dictText_mem_le hp) hz'))
    obtain ⟨b2, hb2, k2⟩ := RwAll.reprK h5 hs2 (fun t ht => let ⟨p, hp, hl⟩ := PyData.shownKv_val_le kvs t ht; Nat.le_trans hl (Nat.le_trans (dictText_mem_le hp) hz'))
    obtain ⟨_, r⟩ := Rw.reads (Rw.dict h1 h2 h3 hsys h4 h5)
    have hb : ReadAtMost h₀ (PyData.depthKv kvs) (b1 ++ b2) := (hb1.mono (PyData.depthAll_keys_le kvs)).append (hb2.mono (PyData.depthAll_vals_le kvs))
    have hna : a ∉ b1 ++ b2 := not_mem_of_deeper r (by simp only [PyData.depth]; omega) hb
    refine ⟨a :: (b1 ++ b2), ReadAtMost.cons r (by simp only [PyData.depth]; omega) hb, ?_⟩
    simp only [PyData.depth, PyData.shown, PyData.shownKv_eq]
    exact ReprK.dict h1 h2 h3 hsys hna (ReprEntriesK.of_two es.toList _ _
      (k1.more_le (fun b hb => List.mem_append_left _ hb) (PyData.depthAll_keys_le kvs)) (k2.more_le (fun b hb => List.mem_append_right _ hb) (PyData.depthAll_vals_le kvs)))
theorem RwAll.reprK : ∀ {vs : List Value} {ds : List PyData}, RwAll h₀ vs ds → PyData.showableAll ds = true → (∀ t ∈ PyData.shownAll ds, t.length ≤ sizeLine) →
    ∃ bs, ReadAtMost h₀ (PyData.depthAll ds) bs ∧ ReprAllK prog w bs h₀ (PyData.depthAll ds) vs (PyData.shownAll ds)
  | _, _, .nil, _, _ => ⟨[], (fun _ h => nomatch h), by simp only [PyData.shownAll]; exact .nil⟩
  | _, _, .cons (d := d) (ds := ds) r rs, hs, hz => by
    have hs' : d.showable = true ∧ PyData.showableAll ds = true := by simpa [PyData.showableAll] using hs
    obtain ⟨b1, hb1, k1⟩ := Rw.reprK r hs'.1 (hz _ (by simp only [PyData.shownAll]; exact List.mem_cons_self ..))
    obtain ⟨b2, hb2, k2⟩ := RwAll.reprK rs hs'.2 (fun t ht => hz t (by simp only [PyData.shownAll]; exact List.mem_cons_of_mem _ ht))
    refine ⟨b1 ++ b2, ?_, ?_⟩
    · simp only [PyData.depthAll]
      exact (hb1.mono (Nat.le_max_left _ _)).append (hb2.mono (Nat.le_max_right _ _))
    · simp only [PyData.depthAll, PyData.shownAll]
      exact .cons ((k1.more fun b hb => List.mem_append_left _ hb).level_le (Nat.le_max_left _ _)) (k2.more_le (fun b hb => List.mem_append_right _ hb) (Nat.le_max_right _ _))
end
/-- repr of what is read -/
theorem call_repr_rw {A : Around} {E : Value → Shared → Prop} {s : Shared} {Q : Value → Shared → Prop} {a : Addr} {d : PyData} (r : Rw s.heap (.ref a) d) (hs : d.showable = true) (hg : A.guards = some []) (hu : A.units + (d.depth + 1) < cLine)
    (hQ : ∀ h' u tk, (∀ b o, s.heap.get? b = some o → h'.get? b = some o) → Q (.str d.shown u) { s with heap := h', toks := tk }) (hsz : d.shown.length ≤ sizeLine) : wpAny (model prog w) A (call (.builtin "repr") [.ref a]) Q E s := by
  have hu1 : A.in1.units + d.depth < cLine := by show A.units + 1 + d.depth < cLine; omega
  have hg1 : A.in1.guards = some [] := hg
  obtain ⟨_, rd⟩ := r.reads
  cases r with
  | list h1 h2 h3 h4 =>
    rename_i o vs n xs
    have hz' : (listText (PyData.shownAll xs)).length ≤ sizeLine := by simpa only [PyData.shown] using hsz
    obtain ⟨bs, hb, hk⟩ := RwAll.reprK (prog := prog) (w := w) h4 (by simpa [PyData.showable] using hs) (fun t ht => Nat.le_trans (listText_mem_le ht) hz')
    have hna : a ∉ bs := not_mem_of_deeper rd (by simp only [PyData.depth]; omega) hb
    simp only [PyData.depth] at hu1
    simp only [PyData.shown] at hQ
    have hT : s.TypeIs (.ref a) "list" := ⟨o, h1, h2⟩
    refine call_repr_slot (by omega) hT F.slot_list_repr.toG ?_
    obtain ⟨l⟩ := vs
    cases l with
    | nil =>
      have h4' : RwAll s.heap [] xs := h4
      cases h4'
      simp only [PyData.shownAll, listText_nil] at hQ
      exact call_list_repr_empty hT h1 h3 ⟨_, _, rfl, hQ s.heap _ _ fun _ _ e => e⟩
    | cons x l =>
      exact call_list_reprK h1 h2 h3 hna (by simpa using hk.length_eq) (fun i y e => hk.item i y (by simpa using e)) hg1 (fun b _ => Clear.nil b) hu1 (fun _ _ e => e) (fun h' u tk k => ⟨_, _, rfl, hQ h' u tk k⟩) hz'
  | tuple h1 h2 h3 h4 =>
    rename_i o vs n xs
    have hz' : (tupleText (PyData.shownAll xs)).length ≤ sizeLine := by simpa only [PyData.shown] using hsz
    obtain ⟨bs, hb, hk⟩ := RwAll.reprK (prog := prog) (w := w) h4 (by simpa [PyData.showable] using hs) (fun t ht => Nat.le_trans (tupleText_mem_le ht) hz')
    have hna : a ∉ bs := not_mem_of_deeper rd (by simp only [PyData.depth]; omega) hb
    simp only [PyData.depth] at hu1
    simp only [PyData.shown] at hQ
    have hT : s.TypeIs (.ref a) "tuple" := ⟨o, h1, h2⟩
    refine call_repr_slot (by omega) hT F.slot_tuple_repr ?_
    exact call_tuple_reprK h1 h2 h3 hna hk hg1 (fun b _ => Clear.nil b) hu1 (fun _ _ e => e) (fun h' u tk k => ⟨_, _, rfl, hQ h' u tk k⟩) hz'
  | dict h1 h2 h3 hsys h4 h5 =>
    rename_i o es n kvs
    have hz' : (dictText (PyData.shownKv kvs)).length ≤ sizeLine := by simpa only [PyData.shown] using hsz
    obtain ⟨hs1, hs2⟩ := PyData.showableKv_split kvs (by simpa [PyData.showable] using hs)
    obtain ⟨b1, hb1, k1⟩ := RwAll.reprK (prog := prog) (w := w) h4 hs1 (fun t ht => let ⟨p, hp, hl⟩ := PyData.shownKv_key_le kvs t ht; Nat.le_trans hl (Nat.le_trans (dictText_mem_le hp) hz'))
    obtain ⟨b2, hb2, k2⟩ := RwAll.reprK (prog := prog) (w := w) h5 hs2 (fun t ht => let ⟨p, hp, hl⟩ := PyData.shownKv_val_le kvs t ht; Nat.le_trans hl (Nat.le_trans (dictText_mem_le hp) hz'))
    have hb : ReadAtMost s.heap (PyData.depthKv kvs) (b1 ++ b2) := (hb1.mono (PyData.depthAll_keys_le kvs)).append (hb2.mono (PyData.depthAll_vals_le kvs))
    have hna : a ∉ b1 ++ b2 := not_mem_of_deeper rd (by simp only [PyData.depth]; omega) hb
    simp only [PyData.depth] at hu1
    simp only [PyData.shown, PyData.shownKv_eq] at hQ
    have hT : s.TypeIs (.ref a) "dict" := ⟨o, h1, h2⟩
    refine call_repr_slot (by omega) hT F.slot_dict_repr ?_
    exact call_dict_reprK h1 h2 h3 hsys hna (ReprEntriesK.of_two es.toList _ _
      (k1.more_le (fun b hb => List.mem_append_left _ hb) (PyData.depthAll_keys_le kvs)) (k2.more_le (fun b hb => List.mem_append_right _ hb) (PyData.depthAll_vals_le kvs))) hg1 (fun b _ => Clear.nil b) hu1 (fun _ _ e => e) (fun h' u tk k => ⟨_, _, rfl, hQ h' u tk k⟩) (by rw [← PyData.shownKv_eq]; exact hz')
end
/-! data in which dicts may stand -/
def keyD : Key → PyData
  | .inl i => .int i
  | .inr x => .str x
mutual
inductive Sd (K : PySem.W.Frag) (H : Hp) : V → PyData → Prop
  | non : Sd K H .non .none
  | bl (b : Bool) : Sd K H (.bl b) (.bool b)
  | int (i : Int) : Sd K H (.int i) (.int i)
  | str (x : Str) : Sd K H (.str x) (.str x)
  | emK {a : Addr} : H a = some (.dK []) → Sd K H (.ref a) (.dict [])
  | emT {a : Addr} : H a = some (.dT []) → Sd K H (.ref a) (.dict [])
  | dic {a : Addr} {kvs : List (Key × V)} {ds : List (PyData × PyData)} : H a = some (.dK kvs) → SdKV K H kvs ds → Sd K H (.ref a) (.dict ds)
  | lst {a : Addr} {xs : List V} {ds : List PyData} : SqL K H a xs → SdAll K H xs ds → Sd K H (.ref a) (.list ds)
  | tup {a : Addr} {xs : List V} {ds : List PyData} : SqT K H a xs → SdAll K H xs ds → Sd K H (.ref a) (.tuple ds)
inductive SdAll (K : PySem.W.Frag) (H : Hp) : List V → List PyData → Prop
  | nil : SdAll K H [] []
  | cons {v : V} {vs : List V} {d : PyData} {ds : List PyData} : Sd K H v d → SdAll K H vs ds → SdAll K H (v :: vs) (d :: ds)
inductive SdKV (K : PySem.W.Frag) (H : Hp) : List (Key × V) → List (PyData × PyData) → Prop
  | nil : SdKV K H [] []
  | cons {k : Key} {v : V} {kvs : List (Key × V)} {d : PyData} {ds : List (PyData × PyData)} : Sd K H v d → SdKV K H kvs ds → SdKV K H ((k, v) :: kvs) ((keyD k, d) :: ds)
end
section
variable {X : Cx} {pins : List (Addr × Obj)} {σ : L2.St} {H : Hp} {s : Shared}
theorem key_rw {P : Program} {w : World} {h : Heap} {k : Key} {v : Value} (e : (mixKind P w).is k v = true) : Rw h v (keyD k) := by
  rcases keyIs_shape e with ⟨i, t, rfl, rfl⟩ | ⟨x, t, rfl, rfl⟩
  · exact .int i t
  · exact .str x t
mutual
theorem sd_rw (I : Inv X pins σ H s) : ∀ (d : PyData) (v : V) (u : Value), Sd X.K H v d → RelV v u → Rw s.heap u d
  | .none, _, _, h, r => by
    cases h
    cases r
    exact .none
  | .bool b, _, _, h, r => by
    cases h
    cases r
    exact .bool b
  | .int i, _, _, h, r => by
    cases h
    obtain ⟨t, rfl⟩ := r
    exact .int i t
  | .str x, _, _, h, r => by
    cases h
    obtain ⟨t, rfl⟩ := r
    exact .str x t
  | .list ds, _, _, h, r => by
    cases h with
    | lst hq h =>
      cases r
      obtain ⟨its, rv, p, _⟩ := I.list hq
      obtain ⟨o, ho, hc, n, hd⟩ := p.isList
      exact .list ho hc hd (by simpa using sdAll_rw I ds _ _ h rv)
  | .tuple ds, _, _, h, r => by
    cases h with
    | tup hq h =>
      cases r
      obtain ⟨its, rv, ⟨o, ho, hc, n, hd⟩, _⟩ := I.tuple hq
      exact .tuple ho hc hd (by simpa using sdAll_rw I ds _ _ h rv)
  | .dict kvs, _, _, h, r => by
    cases h with
    | emK e =>
      cases r
      obtain ⟨_, hs, vs, kv, o, es, ep, ho, ex, hd, _, hes, _⟩ := dk_of I.hok e
      cases kv
      have e0 : es.toList = [] := by
        cases q : es.toList with
        | nil => rfl
        | cons _ _ =>
          rw [q] at hes
          cases hes
      exact .dict (kvs := []) ho ex.1 hd hs (by rw [e0]; exact .nil) (by rw [e0]; exact .nil)
    | emT e =>
      cases r
      obtain ⟨_, hs, xs, px, o, es, ep, ho, ex, hd, hes, _⟩ := dt_of I.hok e
      cases px
      have e0 : es.toList = [] := by simpa using hes
      exact .dict (kvs := []) ho ex.1 hd hs (by rw [e0]; exact .nil) (by rw [e0]; exact .nil)
    | dic e hk =>
      cases r
      obtain ⟨_, hs, vs, kv, o, es, ep, ho, ex, hd, _, hes, _⟩ := dk_of I.hok e
      obtain ⟨q1, q2⟩ := sdKV_rw I kvs _ vs es.toList hk kv hes
      exact .dict ho ex.1 hd hs q1 q2
theorem sdAll_rw (I : Inv X pins σ H s) : ∀ (ds : List PyData) (vs : List V) (us : List Value), SdAll X.K H vs ds → Vals vs us → RwAll s.heap us ds
  | [], _, _, h, r => by
    cases h
    cases r
    exact .nil
  | d :: ds, _, _, h, r => by
    cases h with
    | cons h1 h2 =>
      cases r with
      | cons r1 r2 => exact .cons (sd_rw I d _ _ h1 r1) (sdAll_rw I ds _ _ h2 r2)
theorem sdKV_rw (I : Inv X pins σ H s) : ∀ (ds : List (PyData × PyData)) (kvs : List (Key × V)) (us : List (Key × Value)) (es : List DictEntry), SdKV X.K H kvs ds → KV kvs us → Pairs (mixKind X.prog X.w) es us → RwAll s.heap (es.map (·.key)) (ds.map (·.1)) ∧ RwAll s.heap (es.map (·.val)) (ds.map (·.2))
  | [], _, _, _, h, r, p => by
    cases h
    cases r
    cases p
    exact ⟨.nil, .nil⟩
  | (_, d) :: ds, _, _, _, h, r, p => by
    cases h with
    | cons h1 h2 =>
      cases r with
      | cons r1 r2 =>
        cases p with
        | cons p1 p2 p3 =>
          obtain ⟨q1, q2⟩ := sdKV_rw I ds _ _ _ h2 r2 p3
          obtain ⟨e1, e2⟩ := r1
          refine ⟨.cons ?_ q1, .cons ?_ q2⟩
          · have z := key_rw (h := s.heap) p1
            rw [← e1] at z
            exact z
          · have z := sd_rw I d _ _ h1 e2
            rw [← p2] at z
            exact z
end
end
mutual
theorem dp_sd {K : PySem.W.Frag} {H : Hp} : ∀ {d : PyData} {v : V}, Dp K H v d → Sd K H v d
  | .none, _, h => by cases h; exact .non
  | .bool b, _, h => by cases h; exact .bl b
  | .int i, _, h => by cases h; exact .int i
  | .str x, _, h => by cases h; exact .str x
  | .list ds, _, h => by
    cases h with
    | lst q h => exact .lst q (dpAll_sd h)
  | .tuple ds, _, h => by
    cases h with
    | tup q h => exact .tup q (dpAll_sd h)
  | .dict _, _, h => nomatch h
theorem dpAll_sd {K : PySem.W.Frag} {H : Hp} : ∀ {ds : List PyData} {vs : List V}, DpAll K H vs ds → SdAll K H vs ds
  | [], _, h => by cases h; exact .nil
  | d :: ds, _, h => by
    cases h with
    | cons h1 h2 => exact .cons (dp_sd h1) (dpAll_sd h2)
end
/-- repr of a list, a tuple, a dict -/
def rRepr (K : PySem.W.Frag) : List V → Hp → VK → Prop := fun vs H Q => ∃ (a : Addr) (d : PyData), vs = [V.ref a] ∧ (Dp K H (.ref a) d ∨ Sd K H (.ref a) d) ∧ d.showable = true ∧ d.depth ≤ 90 ∧ d.shown.length ≤ sizeLine ∧ Q (.str d.shown) H
theorem cr_repr {X : Cx} (hg : X.A.guards = some []) (hu : X.A.units + 100 < cLine) : CallR X (.builtin "repr") (rRepr X.K) := by
  intro pins s σ H vs us Q I r h
  obtain ⟨a, d, rfl, hd, hs, hdep, hz, q⟩ := h
  rw [Vals.ref1 r]
  have hd : Sd X.K H (.ref a) d := hd.elim dp_sd id
  exact call_repr_rw (sd_rw I d _ (.ref a) hd rfl) hs hg (by omega) (fun h' u tk k => ⟨.str _, H, I.kept k, ⟨u, rfl⟩, q⟩) hz
end Rf
namespace Rf
open PySem L2 PySem.Spec PyProof.Rows
abbrev EZ : L2.St → XK := fun _ => E0
/-! ### calls whose exceptions are wished for at the caller's slots -/
section
variable {X : Cx} {CX : CXT} {k : Nat} {f C : Addr} {fd : FuncData} {ps : List Str} {sp : Sp} {dvs : List V} {ds : List Value} {E : L2.St → XK} {x m : Str} {p pos apos : Pos} {e o : Expr} {es : List Expr} {ta : TE} {t : TA}
def tMethS (C : Addr) (m : Str) (sp : Sp) (dvs : List V) (E : L2.St → XK) (ta : TE) (t : TA) : TE := fun σ H Q => ta σ H fun x H1 => ∃ a dx fs, x = .ref a ∧ H1 a = some (.ins C dx fs) ∧ fs.lookup m = none ∧ t σ H1 fun vs H2 => sp (x :: (vs ++ dvs)) H2 Q (E σ)
def tMakeS (C : Addr) (sp : Sp) (dvs : List V) (E : L2.St → XK) (t : TA) : TE := fun σ H Q => t σ H fun vs H1 => ∀ x dx, H1 x = none → H1 dx = none → dx ≠ x → sp (.ref x :: (vs ++ dvs)) (upd (upd H1 dx (.own x)) x (.ins C dx [])) (fun v H2 => v = .non ∧ Q (.ref x) H2) (E σ)
theorem pe_callSD0 (F : FnOkG X.prog X.w X.K X.mg X.base CX k f fd ps sp) (hr : RoomG k X.A) (hg : Gl X x) (hm : X.mg x = some (.ref f)) (hk : PySem.W.keepIn X.K (.ref f) = true) (hb : Binds X.K fd ps ds) (hd : Vals dvs ds) (hx : ∀ σ, PassesAt CX X σ (E σ))
    (hdb : (x == ("__debug__" : Str)) = false := by decide) : PE X (.Call (.Name x p) [] [] pos) (tCallSD sp dvs E tNil) := by
  refine ⟨fun pins s σ H Q I h => ?_⟩
  refine wpAny_Call_Name_kw (ld_glob I hg hm ?_ hdb)
  exact PySem.W.callWith_K0 I.kIn hk (run_fnSDG (us := []) F hr hb hd (hx σ) I .nil h)
theorem pe_methSD {pl : Sem Bool} (he : PE X o ta) (c : Cls X.K C) (hm : Meth X.K C m f) (F : FnOkG X.prog X.w X.K X.mg X.base CX k f fd ps sp) (hr : RoomG k X.A) (hb : Binds X.K fd ps ds) (hd : Vals dvs ds) (hx : ∀ σ, PassesAt CX X σ (E σ)) (ha : PA X (e :: es) t)
    (hst : starEach (e :: es) X.env = (false, eval e X.env) :: starEach es X.env := by rfl) (hpl : (backTo pos (starEach es X.env)).any (·.1) = false := by rfl)
    (ht : eval (.Call (.Attribute o m apos) (e :: es) [] pos) X.env = (do
      let ov ← eval o X.env
      standAt apos.atName
      let (f, first) ← holding [ov] (getMethod ov m pl)
      callWith pos f first (backTo pos (starEach (e :: es) X.env)) (backToKw pos (keywordEach [] X.env))) := by rfl) :
    PE X (.Call (.Attribute o m apos) (e :: es) [] pos) (tMethS C m sp dvs E ta t) := by
  refine ⟨fun pins s σ H Q I h => ?_⟩
  refine PySem.W.methodCall_KW (pl := pl) (thn (he.run pins s σ H _ I h) fun u s1 ⟨x, H1, I1, rx, a, dx, fs, ex, ea, l, q⟩ => ?_) ht
  subst ex
  obtain rfl : u = Value.ref a := rx
  refine getmeth_ok I1 ea c hm l ?_
  refine PySem.W.callWith_K (first := [.ref a]) (h₀ := X.base) I.ok.mod.kin hm.kp (thn (ha.run pos pins s1 σ H1 _ I1 q) fun us s2 ⟨vs, H2, I2, r, q2⟩ => ⟨I2.kIn, ?_⟩) hst hpl
  exact run_fnSDG (us := .ref a :: us) (vs := .ref a :: vs) F hr hb hd (hx σ) I2 (.cons rfl r) q2
theorem pe_methSD0 {pl : Sem Bool} (he : PE X o ta) (c : Cls X.K C) (hm : Meth X.K C m f) (F : FnOkG X.prog X.w X.K X.mg X.base CX k f fd ps sp) (hr : RoomG k X.A) (hb : Binds X.K fd ps ds) (hd : Vals dvs ds) (hx : ∀ σ, PassesAt CX X σ (E σ))
    (ht : eval (.Call (.Attribute o m apos) [] [] pos) X.env = (do
      let ov ← eval o X.env
      standAt apos.atName
      let (f, first) ← holding [ov] (getMethod ov m pl)
      callWith pos f first (backTo pos (starEach [] X.env)) (backToKw pos (keywordEach [] X.env))) := by rfl) :
    PE X (.Call (.Attribute o m apos) [] [] pos) (tMethS C m sp dvs E ta tNil) := by
  refine ⟨fun pins s σ H Q I h => ?_⟩
  refine PySem.W.methodCall_KW (pl := pl) (thn (he.run pins s σ H _ I h) fun u s1 ⟨x, H1, I1, rx, a, dx, fs, ex, ea, l, q⟩ => ?_) ht
  subst ex
  obtain rfl : u = Value.ref a := rx
  refine getmeth_ok I1 ea c hm l ?_
  exact PySem.W.callWith_K0 (first := [.ref a]) I1.kIn hm.kp (run_fnSDG (us := [.ref a]) (vs := [.ref a]) F hr hb hd (hx σ) I1 (.cons rfl .nil) q)
theorem run_makeSD {pins : List (Addr × Obj)} {σ : L2.St} {H : Hp} {s : Shared} {Q : VK} {us : List Value} {vs : List V} (M : Mk X.K C f) (F : FnOkG X.prog X.w X.K X.mg X.base CX k f fd ps sp) (hr : RoomG (k + 1) X.A) (hb : Binds X.K fd ps ds) (hd : Vals dvs ds)
    (hx : PassesAt CX X σ (E σ)) (I : Inv X pins σ H s) (r : Vals vs us)
    (h : ∀ x dx, H x = none → H dx = none → dx ≠ x → sp (.ref x :: (vs ++ dvs)) (upd (upd H dx (.own x)) x (.ins C dx [])) (fun v H2 => v = .non ∧ Q (.ref x) H2) (E σ)) :
    wpAny (model X.prog X.w) X.A (call (.ref C) us) (EP X pins σ Q) X.xe s := by
  have hq := h (s.heap.objs.size + 1) s.heap.objs.size (I.hok.fresh (Nat.le_succ _)) (I.hok.fresh (Nat.le_refl _)) (Nat.ne_of_lt (Nat.lt_succ_self _))
  have I2 := Inv.made (C := C) I
  have r2 : Vals (V.ref (s.heap.objs.size + 1) :: (vs ++ dvs)) (Value.ref (s.heap.objs.size + 1) :: (us ++ ds)) := .cons rfl (r.append hd)
  have hl : (Value.ref (s.heap.objs.size + 1) :: us ++ ds).length = ps.length := by
    have e := r2.length
    rw [F.len _ _ _ _ hq] at e
    exact e.symm
  refine wpAny_call (make_map (f := f) I.kIn M.makes M.init (beq_iff_eq.mp M.fn) (codeAny_mono (F.run _ X.stack _ _ ⟨Value.ref (s.heap.objs.size + 1) :: us, []⟩ (Value.ref (s.heap.objs.size + 1) :: (us ++ ds)) _ _ (E σ) (hr.make C us [])
    (I2.env0.make C us []) (hb _ (Value.ref (s.heap.objs.size + 1) :: us) I2.kIn hl) r2 hq) fun r s' hq' => ?_))
  cases r with
  | error e => exact hx pins _ _ e s' I2 hq'
  | ok fl =>
    cases fl with
    | ret u =>
      obtain ⟨v, H', I3, rv, ev, q3⟩ := I2.after hq'
      subst ev
      exact ⟨rv, ⟨V.ref (s.heap.objs.size + 1), H', I3, rfl, q3⟩⟩
    | next => exact False.elim hq'
    | brk => exact False.elim hq'
    | cont => exact False.elim hq'
theorem pe_makeSD (M : Mk X.K C f) (F : FnOkG X.prog X.w X.K X.mg X.base CX k f fd ps sp) (hr : RoomG (k + 1) X.A) (hg : Gl X x) (hm : X.mg x = some (.ref C)) (hb : Binds X.K fd ps ds) (hd : Vals dvs ds) (hx : ∀ σ, PassesAt CX X σ (E σ))
    (ha : PA X (e :: es) t) (hdb : (x == ("__debug__" : Str)) = false := by decide) (he : starEach (e :: es) X.env = (false, eval e X.env) :: starEach es X.env := by rfl) (hpl : (backTo pos (starEach es X.env)).any (·.1) = false := by rfl) :
    PE X (.Call (.Name x p) (e :: es) [] pos) (tMakeS C sp dvs E t) := by
  refine ⟨fun pins s σ H Q I h => ?_⟩
  refine wpAny_Call_Name_kw (ld_glob I hg hm ?_ hdb)
  refine PySem.W.callWith_K (h₀ := X.base) I.ok.mod.kin M.kp (thn (ha.run pos pins s σ H _ I h) fun us s1 ⟨vs, H1, I1, r, q⟩ => ⟨I1.kIn, ?_⟩) he hpl
  exact run_makeSD M F hr hb hd (hx σ) I1 r q
theorem pe_makeSD0 (M : Mk X.K C f) (F : FnOkG X.prog X.w X.K X.mg X.base CX k f fd ps sp) (hr : RoomG (k + 1) X.A) (hg : Gl X x) (hm : X.mg x = some (.ref C)) (hb : Binds X.K fd ps ds) (hd : Vals dvs ds) (hx : ∀ σ, PassesAt CX X σ (E σ))
    (hdb : (x == ("__debug__" : Str)) = false := by decide) : PE X (.Call (.Name x p) [] [] pos) (tMakeS C sp dvs E tNil) := by
  refine ⟨fun pins s σ H Q I h => ?_⟩
  refine wpAny_Call_Name_kw (ld_glob I hg hm ?_ hdb)
  exact PySem.W.callWith_K0 I.kIn M.kp (run_makeSD (us := []) M F hr hb hd (hx σ) I .nil h)
end
/-! ### exceptions of own classes -/
/-- a class whose __init__ is ValueError's -/
structure BaseE (K : PySem.W.Frag) (C : Addr) : Prop where
  ga : PySem.W.specialIn K (.ref C) "__getattribute__" = some (some (.builtin "type.__getattribute__"))
  rd : PySem.W.readsIn K C (.type "type") = true
  ty : PySem.W.typeIn K (.ref C) = some (.type "type")
  fi : PySem.W.findCls K (.ref C) (.type "type") "__init__" = some (.val (.builtin "ValueError.__init__"))
def baseB (K : PySem.W.Frag) (C : Addr) : Bool := decide (PySem.W.specialIn K (.ref C) "__getattribute__" = some (some (.builtin "type.__getattribute__"))) && (PySem.W.readsIn K C (.type "type") && decide (PySem.W.typeIn K (.ref C) = some (.type "type")))
section
variable {X : Cx} {e : Expr} {es : List Expr} {ta : TA} {p1 p2 pos : Pos}
/-- C.__init__(self, ..), C an own class of exceptions without an __init__ of its own -/
theorem pe_cutinit {b : Str} {C : Addr} {pl : Sem Bool} (hg : Gl X b) (hm : X.mg b = some (.ref C)) (hdb : (b == ("__debug__" : Str)) = false) (hB : BaseE X.K C) (ha : PA X (e :: es) ta)
    (hc : eval (.Call (.Attribute (.Name b p1) "__init__" p2) (e :: es) [] pos) X.env = (do
      let ov ← eval (.Name b p1) X.env
      standAt p2.atName
      let (f, first) ← holding [ov] (getMethod ov "__init__" pl)
      callWith pos f first (backTo pos (starEach (e :: es) X.env)) (backToKw pos (keywordEach [] X.env))) := by rfl)
    (he : starEach (e :: es) X.env = (false, eval e X.env) :: starEach es X.env := by rfl) (hpl : (backTo pos (starEach es X.env)).any (·.1) = false := by rfl) :
    PE X (.Call (.Attribute (.Name b p1) "__init__" p2) (e :: es) [] pos) (tVeI X.K ta) := by
  refine ⟨fun pins s σ H Q I h => ?_⟩
  refine PySem.W.methodCall_KW (ld_glob I hg hm ?_ hdb) hc
  obtain ⟨m, fr⟩ := I.fr
  refine PySem.W.method_of_cls fr I.ok.mod.kin hB.ga ?_
  refine PySem.W.cls_val fr I.ok.mod.kin hB.ty hB.rd hB.fi (by decide +kernel) ?_
  show wpAny _ _ (callWith pos (Value.builtin "ValueError.__init__") [] (backTo pos (starEach (e :: es) X.env)) []) _ _ _
  refine PyProof.Rows.callWith_method1 (thn (ha.run pos pins _ σ H _ (I.tok _) h) fun us s1 ⟨vs, H1, I1, r1, a, C, ws, ev, hl, T, ea, q⟩ => ?_) he hpl
  subst ev
  cases r1 with
  | @cons _ u0 _ ur ra rw' =>
    obtain rfl : u0 = Value.ref a := ra
    have hlen : ur.length ≤ sizeLine := by
      rw [← Paired.length rw', sizeLine_eq]
      omega
    exact oinit_ok T I1 ea hlen fun s' J => ⟨.non, H1, J, rfl, q⟩
end
end Rf
namespace Rf
open PySem L2 PySem.Spec PyProof.Rows
/-! ### calls of a def with defaults: what lacks is filled up; one keyword -/
abbrev SpK := List V → List V → Hp → VK → XK → Prop
def tCallKW (sp : SpK) (E : L2.St → XK) (t tk : TA) : TE := fun σ H Q => t σ H fun vs H1 => tk σ H1 fun zs H2 => sp vs zs H2 Q (E σ)
/-- how a def with defaults is called: sp by the positional arguments, kw by these and one keyword's -/
def FillD (K : PySem.W.Frag) (fd : FuncData) (ps : List Str) (sp0 sp : Sp) (kw : List (Str × SpK)) : Prop := (∀ vs H Q E, sp vs H Q E → ∃ dvs ds, Binds K fd ps ds ∧ Vals dvs ds ∧ sp0 (vs ++ dvs) H Q E) ∧
  ∀ n spk, kw.lookup n = some spk → ∃ m g gV, KBn K fd ps m [n] g gV ∧ ∀ vs zs H Q E, spk vs zs H Q E → vs.length = m ∧ zs.length = 1 ∧ sp0 (gV vs zs) H Q E
/-- the last one of n + 1 parameters has the default d0 -/
def spD (n : Nat) (d0 : V) (sp0 : Sp) : Sp := fun vs H Q E => (vs.length = n + 1 ∧ sp0 vs H Q E) ∨ (vs.length = n ∧ sp0 (vs ++ [d0]) H Q E)
def spKw (n : Nat) (sp0 : Sp) : SpK := fun vs zs H Q E => vs.length = n ∧ zs.length = 1 ∧ sp0 (vs ++ zs) H Q E
section
variable {X : Cx} {CX : CXT} {k : Nat} {f : Addr} {fd : FuncData} {ps : List Str} {sp0 sp : Sp} {kw : List (Str × SpK)} {E : L2.St → XK} {x : Str} {p pos kp : Pos} {e ke : Expr} {es : List Expr} {t tk : TA}
theorem pe_callD (F : FnOkG X.prog X.w X.K X.mg X.base CX k f fd ps sp0) (hr : RoomG k X.A) (hg : Gl X x) (hm : X.mg x = some (.ref f)) (hk : PySem.W.keepIn X.K (.ref f) = true) (fi : FillD X.K fd ps sp0 sp kw) (hx : ∀ σ, PassesAt CX X σ (E σ))
    (ha : PA X (e :: es) t) (hdb : (x == ("__debug__" : Str)) = false) (he : starEach (e :: es) X.env = (false, eval e X.env) :: starEach es X.env) (hpl : (backTo pos (starEach es X.env)).any (·.1) = false) :
    PE X (.Call (.Name x p) (e :: es) [] pos) (tCallSD sp [] E t) := by
  refine ⟨fun pins s σ H Q I h => ?_⟩
  refine wpAny_Call_Name_kw (ld_glob I hg hm ?_ hdb)
  refine PySem.W.callWith_K (h₀ := X.base) I.ok.mod.kin hk (thn (ha.run pos pins s σ H _ I h) fun us s1 ⟨vs, H1, I1, r, q⟩ => ⟨I1.kIn, ?_⟩) he hpl
  replace q : sp (vs ++ []) H1 Q (E σ) := q
  rw [List.append_nil] at q
  obtain ⟨dvs, ds, hb, hd, q⟩ := fi.1 _ _ _ _ q
  exact run_fnSDG F hr hb hd (hx σ) I1 r q
theorem pe_callKW {kn : Str} {spk : SpK} (F : FnOkG X.prog X.w X.K X.mg X.base CX k f fd ps sp0) (hr : RoomG k X.A) (hg : Gl X x) (hm : X.mg x = some (.ref f)) (hk : PySem.W.keepIn X.K (.ref f) = true) (fi : FillD X.K fd ps sp0 sp kw) (hl : kw.lookup kn = some spk) (hx : ∀ σ, PassesAt CX X σ (E σ))
    (ha : PA X (e :: es) t) (hke : PK X [⟨some kn, ke, kp⟩] tk) (hdb : (x == ("__debug__" : Str)) = false) (he : starEach (e :: es) X.env = (false, eval e X.env) :: starEach es X.env) (hpl : (backTo pos (starEach (e :: es) X.env)).any (·.1) = false) :
    PE X (.Call (.Name x p) (e :: es) [⟨some kn, ke, kp⟩] pos) (tCallKW spk E t tk) := by
  refine ⟨fun pins s σ H Q I h => ?_⟩
  refine wpAny_Call_Name_kw (ld_glob I hg hm ?_ hdb)
  refine PySem.W.callWith_KW (h₀ := X.base) I.ok.mod.kin hk rfl (thn (ha.run pos pins s σ H _ I h) fun us s1 ⟨vs, H1, I1, r, q⟩ => ?_) (by rw [hpl]; rfl) he
  refine thn (hke.run pos pins s1 σ H1 _ I1 q) fun ws s2 ⟨zs, H2, I2, rz, q2⟩ => ⟨I2.kIn, ?_⟩
  obtain ⟨m, g, gV, hb, hs⟩ := fi.2 _ _ hl
  obtain ⟨l1, l2, q3⟩ := hs _ _ _ _ _ q2
  show wpAny _ _ (call (.ref f) us ([kn].zip ws)) _ _ s2
  have r2 := hb.rel r rz
  refine wpAny_call (codeAny_mono (F.run X.A X.stack s2 H2 ⟨us, [kn].zip ws⟩ (g us ws) (gV vs zs) Q (E σ) hr I2.env0 (hb.to s2 us ws I2.kIn (r.length.symm.trans l1) (rz.length.symm.trans l2)) r2 q3) fun r s' hq => ?_)
  cases r with
  | error e => exact hx σ pins H2 s2 e s' I2 hq
  | ok fl =>
    cases fl with
    | ret u => exact I2.after hq
    | next => exact False.elim hq
    | brk => exact False.elim hq
    | cont => exact False.elim hq
end
end Rf
/-! Within an except suite: what is known of the caught exception, its class asked, its fields read; defs called there. -/
namespace Rf
open PySem L2 PySem.Spec PyProof.Rows
abbrev SpE := Addr → Value → Option Addr → Sp
/-- a is the exception that is handled, of class c, with the dict d -/
def EvC (X : Cx) (a : Addr) (c : Value) (d : Option Addr) : Prop := X.A.handled = some (.ref a) ∧ ∃ oe, (a, oe) ∈ X.pn ∧ L2N.Zn c d oe ∧ ∃ vs, oe.data = .fields vs
theorem EvC.hot {X : Cx} {a : Addr} {c : Value} {d : Option Addr} (ev : EvC X a c d) : L2H.HotC X := by
  obtain ⟨hh, oe, hp, hz, vs, hv⟩ := ev
  exact ⟨(a, oe), ⟨hh, vs, hv, hz.2.2 vs hv⟩, hp⟩
theorem passN {X : Cx} : Passes (L2N.CX X.prog X.w) X (fun _ _ _ => False) := fun _ _ _ _ _ _ _ h => by
  obtain ⟨_, _, _, _, _, _, _, _, _, _, _, _, z⟩ := h
  exact z.elim
/-- what isinstance wants to know of the exception's class -/
structure IsC (K : PySem.W.Frag) (D : Addr) : Prop where
  cl : (PySem.W.clsIn K D).isSome = true
  ga : PySem.W.findIn K (.ref D) "__getattribute__" = some (some (.builtin "BaseException.__getattribute__"))
  gt : PySem.W.findIn K (.ref D) "__getattr__" = some none
  sb : PySem.W.subIn K (.ref D) (.type "BaseException") = some true
  ca : PySem.W.findIn K (.ref D) "__class__" = some (some (.builtin "object.__class__"))
  sp : PySem.W.specialIn K (.builtin "object.__class__") "__get__" = some (some (.builtin "getset_descriptor.__get__"))
  tk : PySem.W.takesIn K (.builtin "object.__class__") = some true
  mr : PySem.W.mroIn K D (.type "object") = some true
  hd : PySem.W.hasDictIn K D = true
def dicE (H : Hp) : Option Addr → Prop
  | none => True
  | some dd => ∃ fs, H dd = some (.xd fs)
def cvals : List V → List Value → Prop
  | [], [] => True
  | v :: vs, u :: us => (∀ w, RelV v w → w = u) ∧ cvals vs us
  | _, _ => False
theorem cvals_eq : ∀ {vs : List V} {us ws : List Value}, cvals vs us → Vals vs ws → ws = us
  | [], [], _, _, .nil => rfl
  | _ :: _, _ :: _, _, ⟨h1, h2⟩, .cons r rr => by rw [h1 _ r, cvals_eq h2 rr]
/-- isinstance(e, c), isinstance(e, (c, ..)) of the caught exception -/
@[irreducible] def rIsX (K : PySem.W.Frag) (a : Addr) (c : Value) (d : Option Addr) : List V → Hp → VK → Prop := fun xs H Q => ∃ (D : Addr) (y : V) (b : Bool), xs = [.ref a, y] ∧ c = .ref D ∧ IsC K D ∧ dicE H d ∧
  ((∃ cv, (∀ u, RelV y u → u = cv) ∧ PySem.W.kitOne K c cv = some b) ∨ (∃ t cs us, y = .ref t ∧ SqT K H t cs ∧ cvals cs us ∧ PySem.W.kitAny K c us = some b)) ∧ Q (.bl b) H
theorem instE {X : Cx} {pins : List (Addr × Obj)} {σ : L2.St} {H : Hp} {s : Shared} {a D : Addr} {d : Option Addr} (I : Inv X pins σ H s) (ev : EvC X a (.ref D) d) (hd : dicE H d) : ∃ oe od, PySem.W.InstAt s.heap a oe D od ∧ (d = none → od = none) ∧ ∀ dd, d = some dd → ∃ o, od = some o ∧ s.heap.get? dd = some o := by
  obtain ⟨_, oe, hp, hz, vs, hv⟩ := ev
  obtain ⟨hget, _⟩ := I.pin (a, oe) (List.mem_append_left _ hp)
  have hn : PySem.W.notCls oe = true := by
    unfold PySem.W.notCls
    rw [hv]
  cases d with
  | none => exact ⟨oe, none, ⟨hget, hz.1, hn, by rw [hz.2.1]; exact trivial⟩, fun _ => rfl, fun dd z => nomatch z⟩
  | some dd =>
    obtain ⟨fs, hfs⟩ := hd
    obtain ⟨mA, hns, _⟩ := (show ObjOk X.prog X.w H s.heap dd (.xd fs) from I.hok dd _ hfs)
    obtain ⟨o, ho, _⟩ := lookIn_ns hns
    refine ⟨oe, some o, ⟨hget, hz.1, hn, by rw [hz.2.1]; exact ho⟩, (by intro z; cases z), ?_⟩
    intro d' z
    cases z
    exact ⟨o, rfl, ho⟩
theorem call_isX {X : Cx} {a : Addr} {c : Value} {d : Option Addr} (ev : EvC X a c d) : CallR X (.builtin "isinstance") (rIsX X.K a c d) := by
  intro pins s σ H xs us Q I r h
  unfold rIsX at h
  obtain ⟨D, y, b, rfl, rfl, C, hd, h, q⟩ := h
  obtain ⟨oe, od, J, _, _⟩ := instE I ev hd
  cases r with
  | cons rx rr =>
    cases rr with
    | cons rt rr =>
      cases rr
      cases rx
      have Z := PySem.W.kitx_exc (x := a) (ox := oe) (od := od) C.cl C.ga C.gt C.sb C.ca C.sp C.tk C.mr
      have fin : ∀ tk, EP X pins σ Q (.bool b) { s with toks := tk } := fun tk => ⟨.bl b, H, I.kept (t' := tk) fun _ _ z => z, rfl, q⟩
      rcases h with ⟨cv, hcv, e⟩ | ⟨t, cs, us, rfl, ht, hc, e⟩
      · have ec := hcv _ rt
        subst ec
        exact PySem.W.kia_one Z I.kIn J e (fun z => nomatch z) fin
      · cases rt
        obtain ⟨its, rv, pl, _⟩ := I.tuple ht
        have ei := cvals_eq hc rv
        subst ei
        obtain ⟨⟨oc, od', oda, osl⟩, hget, h1, n, h2⟩ := pl
        dsimp only at h1 h2
        subst h1 h2
        exact PySem.W.kia_tup Z I.kIn J hget e (fun z => nomatch z) fin
/-- a field of the caught exception -/
structure FdC (K : PySem.W.Frag) (C : Addr) (n : Str) : Prop where
  x : XfC K C
  no : PySem.W.findIn K (.ref C) n = some none
@[irreducible] def rFdX (K : PySem.W.Frag) (a : Addr) (c : Value) (d : Option Addr) (n : Str) (x : V) (H : Hp) (Q : VK) : Prop := x = .ref a ∧ ∃ (C dd : Addr) (fs : List (Str × V)) (v : V), c = .ref C ∧ FdC K C n ∧ d = some dd ∧ H dd = some (.xd fs) ∧ fs.lookup n = some v ∧ Q v H
def tFldX (K : PySem.W.Frag) (a : Addr) (c : Value) (d : Option Addr) (te : TE) (n : Str) : TE := fun σ H Q => te σ H fun x H1 => rFdX K a c d n x H1 Q
theorem pe_fldX {X : Cx} {a : Addr} {c : Value} {d : Option Addr} {e : Expr} {te : TE} {pos : Pos} {n : Str} (ev : EvC X a c d) (he : PE X e te) (hb : attributeBase e n X.env (eval e X.env) = eval e X.env) : PE X (.Attribute e n pos) (tFldX X.K a c d te n) := by
  refine ⟨fun pins s σ H Q I h => ?_⟩
  refine attr_of hb (thn (he.run pins s σ H _ I h) fun u s1 hh => ?_)
  obtain ⟨x, H1, I1, rx, q0⟩ := hh
  unfold rFdX at q0
  obtain ⟨ex, C, dd, fs, v, ec, T, ed, ea, l, q⟩ := q0
  subst ex ec ed
  obtain rfl : u = Value.ref a := rx
  obtain ⟨mA, hns, hr⟩ := (show ObjOk X.prog X.w H1 s1.heap dd (.xd fs) from I1.hok dd _ ea)
  obtain ⟨oe, od, J, _, hod⟩ := instE I1 ev ⟨fs, ea⟩
  obtain ⟨o, rfl, ho⟩ := hod dd rfl
  obtain ⟨o', ho', hl⟩ := lookIn_ns hns
  rw [ho] at ho'
  cases ho'
  have rl := hr n
  rw [l] at rl
  obtain ⟨w, hw, rw'⟩ := RelO.some_of (v := v) (o := mA n) rl
  exact HandSPX.exc_get I1.kIn J T.x.ga T.x.gg T.x.exC (PySem.W.findObj_own T.x.hdC T.no rfl (by rw [hl, hw])) (handed_of rw') ⟨v, H1, I1.tok _, rw', q⟩
/-- what a def promises that is called while an exception is handled -/
structure FnE (P : Program) (w : World) (K : PySem.W.Frag) (mg : Str → Option Value) (base : Heap) (CX : CXT) (k : Nat) (f : Addr) (fd : FuncData) (ps : List Str) (sp : SpE) : Prop where
  len : ∀ a c d vs H Q E, sp a c d vs H Q E → vs.length = ps.length
  run : ∀ {A : Around} {outer : List Env} {s : Shared} {H : Hp} {us : List Value} {vs : List V} {Q : VK} {E : XK} {a : Addr} {oe : Obj} {c : Value} {d : Option Addr}, L2H.RoomH k A → A.handled = some (.ref a) → L2N.Zn c d oe → (∃ vs, oe.data = .fields vs) →
    L2H.PinOk outer H s (a, oe) → Env0 P w K mg base A outer s H → BindsTo s fd ⟨us, []⟩ (ps.zip us) → Vals vs us → sp a c d vs H Q E → codeAny (model P w) A (.call (.ref f) ⟨us, []⟩) (CR CX outer P w H s Q E) s
section
variable {P : Program} {w : World} {K : PySem.W.Frag} {mg : Str → Option Value} {base : Heap} {CX : CXT} {k : Nat} {f : Addr} {fd : FuncData} {N ps : List Str} {sp : SpE}
theorem fnE_of {x qual : Str} {pa : Arguments} {bd : List Stmt} {sc : Scope} {dvs : List V} {kws : List (Str × V)} (F : FunD K x qual pa bd sc dvs kws f fd) (S : FnScope N ps sc) (len : ∀ a c d vs H Q E, sp a c d vs H Q E → vs.length = ps.length)
    (body : ∀ (cdv : Value) (A : Around) (outer : List Env) (s : Shared) (H : Hp) (vs : List V) (Q : VK) (E : XK) (a : Addr) (oe : Obj) (c : Value) (d : Option Addr), A.handled = some (.ref a) → L2N.Zn c d oe → (∃ vs, oe.data = .fields vs) →
      L2H.RoomH k (A.deeper (envOfC qual sc s.heap.objs.size f cdv)) → sp a c d vs H Q E →
      ∃ t, PSs (L2H.cxH CX P w K mg base N qual sc f cdv A outer s H E (a, oe)) bd t ∧ t { nx := fun _ H' => Q .non H', rt := Q } (L2.start N vs) H) : FnE P w K mg base CX (k + 1) f fd ps sp := by
  obtain ⟨oc, od, dV, kV, doc, pm, an, cdv, ct, osl, rfl, lk, hcd, _, _⟩ := F.ex
  refine ⟨len, fun {A outer s H us vs Q E a oe c d} room hh hz hf pin e0 bi rv hs => ?_⟩
  have count := len _ _ _ _ _ _ _ hs
  have keep := fun b o (e : base.get? b = some o) => (e0.bs b o e).1
  have kin : K.In s.heap := e0.mod.kin.keeps keep
  have slots : ∀ y ∈ ps.zip us, sc.names.lookup y.1 = some .local ∨ (sc.names.lookup y.1 = some .cell ∧ ((cellsFrom (s.heap.objs.size + 1) sc.names []).lookup y.1).isSome = true) := by
    intro y hy
    rcases S.par y.1 (List.of_mem_zip (a := y.1) (b := y.2) hy).1 with q | q
    · exact .inl q
    · exact .inr ⟨q, PySem.W.cellsFrom_some _ _ _ (.inl q)⟩
  refine codeAny_call_function room.depth (kin _ _ lk) rfl S.co S.gen rfl (PySem.W.codeRec_of kin hcd) (bi _ _ _ _ ?_)
  refine wpAny_newFunctionEnv_cells S.kind slots ?_
  rintro env rfl s1 inC
  refine ⟨(e0.mod.nolimit.keeps keep).keeps inC.toInCall.keep, codeAny_func ?_⟩
  obtain ⟨t, pt, ht⟩ := body cdv A outer s H vs Q E a oe c d hh hz hf (room.deeper _) hs
  have start0 := L2H.inv_startH (CX := CX) (E := E) S pin e0 count rv inC
  refine wpAny_mono (pt.run [] s1 _ H _ start0 ht) ?_ fun _ _ z => z
  intro fl s' z
  cases fl with
  | ret u =>
    obtain ⟨v, _, H', J, rl, q⟩ := z
    exact ⟨v, H', J.os, J.bare, J.base, J.hok, rl, q⟩
  | next =>
    obtain ⟨_, H', J, q⟩ := z
    exact ⟨V.non, H', J.os, J.bare, J.base, J.hok, rfl, q⟩
  | brk => exact z.elim fun _ z => z.elim fun _ z => z.2.elim
  | cont => exact z.elim fun _ z => z.elim fun _ z => z.2.elim
end
def tCallE (sp : Sp) (t : TA) : TE := fun σ H Q => t σ H fun vs H1 => sp vs H1 Q (fun _ _ _ => False)
theorem run_fnE {X : Cx} {CX : CXT} {k : Nat} {f : Addr} {fd : FuncData} {ps : List Str} {sp : SpE} {a : Addr} {c : Value} {d : Option Addr} {pins : List (Addr × Obj)} {σ : L2.St} {H : Hp} {s : Shared} {Q : VK} {us : List Value} {vs : List V}
    (F : FnE X.prog X.w X.K X.mg X.base CX k f fd ps sp) (hr : L2H.RoomH k X.A) (ev : EvC X a c d) (hb : Binds X.K fd ps []) (hx : PassesAt CX X σ (fun _ _ _ => False)) (I : Inv X pins σ H s) (r : Vals vs us) (h : sp a c d vs H Q (fun _ _ _ => False)) :
    wpAny (model X.prog X.w) X.A (call (.ref f) us) (EP X pins σ Q) X.xe s := by
  obtain ⟨hh, oe, hp, hz, hf⟩ := ev
  obtain ⟨p1, p2, p3, p4, p5⟩ := I.pin (a, oe) (List.mem_append_left _ hp)
  have hl : us.length = ps.length := r.length.symm.trans (F.len _ _ _ _ _ _ _ h)
  have bi := hb s us I.kIn (by rw [List.append_nil]; exact hl)
  rw [List.append_nil] at bi
  have pin : L2H.PinOk X.stack H s (a, oe) := ⟨p1, p2, fun m => (List.mem_cons.mp (I.stkSub a m)).elim p3 p4, p5⟩
  refine wpAny_call (codeAny_mono (F.run hr hh hz hf pin I.env0 bi r h) ?_)
  intro r s' z
  match r, z with
  | .error e, z => exact hx pins H s e s' I z
  | .ok (.ret u), z => exact I.after z
  | .ok .next, z => exact z.elim
  | .ok .brk, z => exact z.elim
  | .ok .cont, z => exact z.elim
theorem pe_callE {X : Cx} {CX : CXT} {k : Nat} {f : Addr} {fd : FuncData} {ps : List Str} {sp : SpE} {a : Addr} {c : Value} {d : Option Addr} {x : Str} {p pos : Pos} {e : Expr} {es : List Expr} {t : TA} (F : FnE X.prog X.w X.K X.mg X.base CX k f fd ps sp) (hr : L2H.RoomH k X.A)
    (ev : EvC X a c d) (hg : Gl X x) (hm : X.mg x = some (.ref f)) (hk : PySem.W.keepIn X.K (.ref f) = true) (hb : Binds X.K fd ps []) (hx : ∀ σ, PassesAt CX X σ (fun _ _ _ => False)) (ha : PA X (e :: es) t) (hdb : (x == ("__debug__" : Str)) = false)
    (he : starEach (e :: es) X.env = (false, eval e X.env) :: starEach es X.env) (hpl : (backTo pos (starEach es X.env)).any (·.1) = false) : PE X (.Call (.Name x p) (e :: es) [] pos) (tCallE (sp a c d) t) := by
  refine ⟨fun pins s σ H Q I h => ?_⟩
  refine wpAny_Call_Name_kw (ld_glob I hg hm ?_ hdb)
  refine PySem.W.callWith_K (h₀ := X.base) I.ok.mod.kin hk (thn (ha.run pos pins s σ H _ I h) ?_) he hpl
  rintro us s1 ⟨vs, H1, J, rv, q⟩
  exact ⟨J.kIn, run_fnE F hr ev hb (hx σ) J rv q⟩
end Rf
/-! While an exception is handled: the ends of iterators, a zip of two lists walked in a list comprehension, tuples unpacked, all(). -/
namespace Rf
open PySem L2 L2H PySem.Spec PyProof.Rows
section
variable {prog : Program} {w : World} {A : Around} {E : Value → Shared → Prop} {s : Shared}
theorem hotKeep {x1 : Addr} {h h' : Heap} (c : HotX.HotAt A x1 h) (k : ∀ o, h.get? x1 = some o → h'.get? x1 = some o) : HotX.HotAt A x1 h' := by
  obtain ⟨hh, o, vs, e, d, z⟩ := c
  exact ⟨hh, o, vs, k o e, d, z⟩
/-- the end of an iterator is told -/
theorem stop_hot {α : Type} {x1 : Addr} {Q : α → Shared → Prop} (hot : HotX.HotAt A x1 s.heap)
    (hE : ∀ h' e, (∀ b o, s.heap.get? b = some o → h'.get? b = some o) → (∃ o, h'.get? e = some o ∧ o.cls = .type "StopIteration") → E (.ref e) { s with heap := h' }) :
    wpAny (model prog w) A (newExc (.type "StopIteration") [] >>= fun e => (raiseNew e : Sem α)) Q E s := by
  obtain ⟨hh, o1, vs1, h1, d1, c1⟩ := hot
  refine wpAny_bind ?_
  simp only [newExc, newTuple]
  refine wpAny_bind (wpAny_newObj_type ?_ (by size_fits))
  refine wpAny_bind (m := firstArgMember _ _) (wpAny_of_eq (a := Value.none) (by first | rfl | (simp only [firstArgMember]; rfl)) ?_)
  refine wpAny_newObj_type ?_ (by size_fits)
  refine HotX.raiseNew_hot ⟨hh, o1, vs1, Heap.get?_push_of_some _ (Heap.get?_push_of_some _ h1), d1, c1⟩ (Nat.ne_of_lt (Heap.lt_size (Heap.get?_push_of_some _ h1))) (Heap.get?_push_size _ rfl) rfl (by first | (simp; done) | (simp; omega) | (simp only [Array.size_append]; simp; omega)) ?_
  refine hE _ _ (fun b o e => ?_) ⟨_, Heap.get?_update_self _ (Heap.get?_push_size _ rfl) rfl, rfl⟩
  rw [Heap.get?_update_other _ _ (Nat.ne_of_gt (Heap.lt_size (Heap.get?_push_of_some _ e)))]
  exact Heap.get?_push_of_some _ (Heap.get?_push_of_some _ e)
theorem list_end_hot {it l x1 : Addr} {i : Nat} {items} {Q : Option Value → Shared → Prop} (hot : HotX.HotAt A x1 s.heap) (hne : x1 ≠ it)
    (hit : s.heap.IsListIter it l i) (hl : s.heap.IsList l items) (hx : items[i]? = none)
    (hQ : ∀ h', Heap.ExtBut it s.heap h' → Q none { s with heap := h' }) : wpAny (model prog w) A (pyNext (.ref it)) Q E s := by
  obtain ⟨o, ho, hc, hd⟩ := id hit
  obtain ⟨ol, hol, _, nl, hdl⟩ := hl
  unfold pyNext
  refine wpAny_bind (wpAny_attempt (wpAny_callSpecial?_slot (name := Str.ofString "__next__") hit.typeIs slot_listiter_next
    (wpAny_call_entry slot_listiter_next hit.typeIs entry_listiter_next ?_ (args_listiter_next _))))
  show wpAny _ _ (field (.ref it) 0 >>= _) _ _ s
  refine wpAny_bind (wpAny_field ho hd (x := .ref l) rfl ?_)
  show wpAny _ _ (if (Value.ref l == Value.none) = true then _ else _) _ _ s
  rw [if_neg (show ¬ ((Value.ref l == Value.none) = true) from Bool.false_ne_true)]
  show wpAny _ _ (field (.ref it) 1 >>= _) _ _ s
  refine wpAny_bind (wpAny_field ho hd (x := .int i 0) rfl ?_)
  show wpAny _ _ (seqItems? (.ref l) >>= _) _ _ s
  refine wpAny_bind (wpAny_seqItems hol hdl ?_)
  simp only [Int.toNat_natCast, hx]
  refine wpAny_bind (wpAny_rule (wpAny_bind (wpAny_setField ho hd (by simp) ?_)))
  refine stop_hot (A := A.in1) (x1 := x1) (hotKeep hot fun o e => (Heap.SameBut.update ..).extBut x1 o hne e) fun h' e k hs => ?_
  obtain ⟨oe, he, hce⟩ := hs
  refine wpAny_bind (wpAny_isInstance (T := "StopIteration") (b := true) ⟨_, he, hce⟩ isSubtype_stop ?_)
  exact wpAny_pure (hQ _ fun b o hb e => k b o ((Heap.SameBut.update ..).extBut b o hb e))
theorem nextOf_end_hot {it l x1 : Addr} {i : Nat} {items} {Q : Value → Shared → Prop} (hot : HotX.HotAt A x1 s.heap) (hne : x1 ≠ it)
    (hit : s.heap.IsListIter it l i) (hl : s.heap.IsList l items) (hx : items[i]? = none)
    (hE : ∀ h' e, Heap.ExtBut it s.heap h' → (∃ o, h'.get? e = some o ∧ o.cls = .type "StopIteration") → E (.ref e) { s with heap := h' }) :
    wpAny (model prog w) A (Builtin.SmallTypes.nextOf (.ref it)) Q E s := by
  obtain ⟨o, ho, hc, hd⟩ := id hit
  obtain ⟨ol, hol, _, nl, hdl⟩ := hl
  unfold Builtin.SmallTypes.nextOf
  refine wpAny_bind (wpAny_callSpecial?_slot (name := Str.ofString "__next__") hit.typeIs slot_listiter_next
    (wpAny_call_entry slot_listiter_next hit.typeIs entry_listiter_next ?_ (args_listiter_next _)))
  show wpAny _ _ (field (.ref it) 0 >>= _) _ _ s
  refine wpAny_bind (wpAny_field ho hd (x := .ref l) rfl ?_)
  show wpAny _ _ (if (Value.ref l == Value.none) = true then _ else _) _ _ s
  rw [if_neg (show ¬ ((Value.ref l == Value.none) = true) from Bool.false_ne_true)]
  show wpAny _ _ (field (.ref it) 1 >>= _) _ _ s
  refine wpAny_bind (wpAny_field ho hd (x := .int i 0) rfl ?_)
  show wpAny _ _ (seqItems? (.ref l) >>= _) _ _ s
  refine wpAny_bind (wpAny_seqItems hol hdl ?_)
  simp only [Int.toNat_natCast, hx]
  refine wpAny_bind (wpAny_rule (wpAny_bind (wpAny_setField ho hd (by simp) ?_)))
  exact stop_hot (A := A.in1) (x1 := x1) (hotKeep hot fun o e => (Heap.SameBut.update ..).extBut x1 o hne e) fun h' e k hs => hE _ _ (fun b o hb e => k b o ((Heap.SameBut.update ..).extBut b o hb e)) hs
theorem zip_end_hot {z TI TO i1 i2 l1 l2 x1 : Addr} {k1 k2 : Nat} {xs ys : Array Value} {a b : Value} {Q : Fin → Shared → Prop} (hot : HotX.HotAt A x1 s.heap) (nz : x1 ≠ z) (nTO : x1 ≠ TO) (n1 : x1 ≠ i1) (n2 : x1 ≠ i2) (D : ZipApart z TI TO i1 i2 l1 l2)
    (hz : IsZip s.heap z TI TO .none) (hTI : IsPair s.heap TI (.ref i1) (.ref i2)) (hTO : IsPair s.heap TO a b)
    (h1 : s.heap.IsListIter i1 l1 k1) (h2 : s.heap.IsListIter i2 l2 k2) (hl1 : s.heap.IsList l1 xs) (hl2 : s.heap.IsList l2 ys) (hend : xs[k1]? = none ∨ ys[k2]? = none)
    (hE : ∀ h' e, (∀ c o, c ≠ z → c ≠ TO → c ≠ i1 → c ≠ i2 → s.heap.get? c = some o → h'.get? c = some o) → (∃ o, h'.get? e = some o ∧ o.cls = .type "StopIteration") → E (.ref e) { s with heap := h' }) :
    wpAny (model prog w) A (Builtin.«zip.__next__» ⟨[.ref z], []⟩) Q E s := by
  show wpAny _ _ (field (.ref z) 2 >>= _) _ _ _
  refine wpAny_bind (wpAny_field hz rfl (x := .bool false) rfl ?_)
  show wpAny _ _ (field (.ref z) 3 >>= _) _ _ _
  refine wpAny_bind (wpAny_field hz rfl (x := .ref TI) rfl ?_)
  refine wpAny_bind (wpAny_seqItems hTI rfl ?_)
  show wpAny _ _ (Builtin.SmallTypes.ownedTupleIsFree (.ref z) >>= _) _ _ _
  refine wpAny_bind ?_
  unfold Builtin.SmallTypes.ownedTupleIsFree
  refine wpAny_bind (wpAny_field hz rfl (x := .none) rfl (wpAny_pure ?_))
  simp only [if_true]
  refine wpAny_bind (wpAny_rule ?_)
  refine wpAny_bind (wpAny_field hz rfl (x := .ref TO) rfl ?_)
  refine wpAny_bind (wpAny_setField_rec hz (by simp) fun h₁ hz₁ hs₁ => ?_)
  replace hz₁ : IsZip h₁ z TI TO .ellipsis := hz₁
  have hot₁ : HotX.HotAt A x1 h₁ := hotKeep hot fun o e => hs₁.extBut _ _ nz e
  refine wpAny_bind ?_
  simp only [List.zipIdx_cons, List.zipIdx_nil, List.forIn_cons, List.forIn_nil]
  refine wpAny_bind (wpAny_bind (wpAny_onRaise ?_))
  show wpAny _ _ (Builtin.SmallTypes.nextOf (.ref i1) >>= _) _ _ _
  cases hx : xs[k1]? with
  | none =>
    refine wpAny_bind (nextOf_end_hot hot₁ n1 (h1.extBut hs₁.extBut D.i1z) (hl1.extBut hs₁.extBut D.l1z) hx fun h₂ e hs₂ he => ?_)
    obtain ⟨oe, hoe, hce⟩ := he
    have hz₂ : IsZip h₂ z TI TO .ellipsis := hs₂ _ _ D.i1z.symm hz₁
    have hez : e ≠ z := fun x => by subst x; rw [hz₂] at hoe; cases hoe; simp at hce
    refine wpAny_setField_rec hz₂ (by simp) fun h₃ _ hs₃ => hE h₃ e (fun c o c1 _ c3 _ x => hs₃.extBut _ _ c1 (hs₂ _ _ c3 (hs₁.extBut _ _ c1 x))) ⟨oe, hs₃.extBut _ _ hez hoe, hce⟩
  | some x =>
    have hy : ys[k2]? = none := by rcases hend with h | h; rw [hx] at h; cases h; exact h
    refine wpAny_bind (wpAny_nextOf_list_item (h1.extBut hs₁.extBut D.i1z) (hl1.extBut hs₁.extBut D.l1z) hx fun h₂ h1₂ hs₂ => wpAny_pure ?_)
    have hTO₂ : IsPair h₂ TO a b := hs₂.extBut _ _ D.TOi1 (hs₁.extBut _ _ D.TOz hTO)
    refine wpAny_bind (wpAny_seqItems hTO₂ rfl ?_)
    refine wpAny_bind (wpAny_updateSeq_pair hTO₂ fun h₃ hTO₃ hs₃ => ?_)
    refine wpAny_bind (wpAny_letGo (wpAny_pure ?_))
    refine wpAny_bind (wpAny_bind (wpAny_onRaise ?_))
    show wpAny _ _ (Builtin.SmallTypes.nextOf (.ref i2) >>= _) _ _ _
    have hot₃ : HotX.HotAt A x1 h₃ := hotKeep hot₁ fun o e => hs₃.extBut _ _ nTO (hs₂.extBut _ _ n1 e)
    refine wpAny_bind (nextOf_end_hot hot₃ n2 (((h2.extBut hs₁.extBut D.i2z).extBut hs₂.extBut D.i12.symm).extBut hs₃.extBut D.TOi2.symm)
      (((hl2.extBut hs₁.extBut D.l2z).extBut hs₂.extBut D.l2i1).extBut hs₃.extBut D.l2TO) hy fun h₄ e hs₄ he => ?_)
    obtain ⟨oe, hoe, hce⟩ := he
    have hz₄ : IsZip h₄ z TI TO .ellipsis := hs₄ _ _ D.i2z.symm (hs₃.extBut _ _ D.TOz.symm (hs₂.extBut _ _ D.i1z.symm hz₁))
    have hez : e ≠ z := fun x => by subst x; rw [hz₄] at hoe; cases hoe; simp at hce
    refine wpAny_setField_rec hz₄ (by simp) fun h₅ _ hs₅ => hE h₅ e (fun c o c1 c2 c3 c4 x => hs₅.extBut _ _ c1 (hs₄ _ _ c4 (hs₃.extBut _ _ c2 (hs₂.extBut _ _ c3 (hs₁.extBut _ _ c1 x))))) ⟨oe, hs₅.extBut _ _ hez hoe, hce⟩
theorem pyNext_zip_end_hot {z TI TO i1 i2 l1 l2 x1 : Addr} {k1 k2 : Nat} {xs ys : Array Value} {a b : Value} {Q : Option Value → Shared → Prop} (hot : HotX.HotAt A x1 s.heap) (nz : x1 ≠ z) (nTO : x1 ≠ TO) (n1 : x1 ≠ i1) (n2 : x1 ≠ i2) (D : ZipApart z TI TO i1 i2 l1 l2)
    (hz : IsZip s.heap z TI TO .none) (hTI : IsPair s.heap TI (.ref i1) (.ref i2)) (hTO : IsPair s.heap TO a b)
    (h1 : s.heap.IsListIter i1 l1 k1) (h2 : s.heap.IsListIter i2 l2 k2) (hl1 : s.heap.IsList l1 xs) (hl2 : s.heap.IsList l2 ys) (hend : xs[k1]? = none ∨ ys[k2]? = none)
    (hQ : ∀ h', (∀ c o, c ≠ z → c ≠ TO → c ≠ i1 → c ≠ i2 → s.heap.get? c = some o → h'.get? c = some o) → Q none { s with heap := h' }) : wpAny (model prog w) A (pyNext (.ref z)) Q E s := by
  have hT : s.TypeIs (.ref z) "zip" := ⟨_, hz, rfl⟩
  unfold pyNext
  refine wpAny_bind (wpAny_attempt (wpAny_callSpecial?_slot (name := Str.ofString "__next__") hT F.slot_zip_next
    (wpAny_call_entry F.slot_zip_next hT F.entry_zip_next (zip_end_hot (x1 := x1) (hotKeep hot fun _ e => e) nz nTO n1 n2 D hz hTI hTO h1 h2 hl1 hl2 hend fun h' e hk he => ?_) (F.args_zip_next_1 _))))
  obtain ⟨o, ho, hc⟩ := he
  refine wpAny_bind (wpAny_isInstance (T := "StopIteration") (b := true) ⟨o, ho, hc⟩ isSubtype_stop ?_)
  exact wpAny_pure (hQ _ hk)
theorem tuple_end_hot {it t x1 : Addr} {i : Nat} {items} {Q : Option Value → Shared → Prop} (hot : HotX.HotAt A x1 s.heap) (hne : x1 ≠ it)
    (hit : IsTupIter s.heap it t i) (ht : IsTup s.heap t items) (hx : items[i]? = none)
    (hQ : ∀ h', Heap.ExtBut it s.heap h' → Q none { s with heap := h' }) : wpAny (model prog w) A (pyNext (.ref it)) Q E s := by
  obtain ⟨o, ho, hc, hd⟩ := id hit
  obtain ⟨ol, hol, _, nl, hdl⟩ := ht
  unfold pyNext
  refine wpAny_bind (wpAny_attempt (wpAny_callSpecial?_slot (name := Str.ofString "__next__") hit.typeIs slot_tupleiter_next
    (wpAny_call_entry slot_tupleiter_next hit.typeIs entry_tupleiter_next ?_ (args_tupleiter_next _))))
  show wpAny _ _ (field (.ref it) 0 >>= _) _ _ s
  refine wpAny_bind (wpAny_field ho hd (x := .ref t) rfl ?_)
  show wpAny _ _ (if (Value.ref t == Value.none) = true then _ else _) _ _ s
  rw [if_neg (show ¬ ((Value.ref t == Value.none) = true) from Bool.false_ne_true)]
  show wpAny _ _ (field (.ref it) 1 >>= _) _ _ s
  refine wpAny_bind (wpAny_field ho hd (x := .int i 0) rfl ?_)
  show wpAny _ _ (seqItems? (.ref t) >>= _) _ _ s
  refine wpAny_bind (wpAny_seqItems hol hdl ?_)
  simp only [Int.toNat_natCast, hx]
  refine wpAny_bind (wpAny_rule (wpAny_bind (wpAny_setField ho hd (by simp) ?_)))
  refine stop_hot (A := A.in1) (x1 := x1) (hotKeep hot fun o e => (Heap.SameBut.update ..).extBut x1 o hne e) fun h' e k hs => ?_
  obtain ⟨oe, he, hce⟩ := hs
  refine wpAny_bind (wpAny_isInstance (T := "StopIteration") (b := true) ⟨_, he, hce⟩ isSubtype_stop ?_)
  exact wpAny_pure (hQ _ fun b o hb e => k b o ((Heap.SameBut.update ..).extBut b o hb e))
theorem unpackItems_hot {t x1 : Addr} {items : Array Value} {Q : List Value → Shared → Prop} (hot : HotX.HotAt A x1 s.heap) (ht : IsTup s.heap t items)
    (hQ : ∀ h', Heap.ExtBut s.heap.objs.size s.heap h' → Q items.toList { s with heap := h' }) : wpAny (model prog w) A (unpackItems (.ref t) items.size none) Q E s := by
  have hlt : t ≠ s.heap.objs.size := by obtain ⟨o, ho, _⟩ := ht; exact Nat.ne_of_lt (Heap.lt_size ho)
  have hx1 : x1 ≠ s.heap.objs.size := by obtain ⟨_, o, _, ho, _⟩ := hot; exact Nat.ne_of_lt (Heap.lt_size ho)
  unfold unpackItems
  refine wpAny_bind ?_
  · unfold notIterableAtAll
    refine wpAny_bind (wpAny_specialOf ht.typeIs slot_tuple_iter.lookup ?_)
    refine wpAny_pure ?_
    simp only [Bool.false_eq_true, if_false]
    refine wpAny_bind (wpAny_holding (iter_tuple ht ?_))
    refine wpAny_bind (wpAny_holding (draw_tuple hlt items.size 0 _ _ ⟨_, Heap.get?_push_size _ rfl, rfl, rfl⟩ (ht.push _) (by omega) fun h₁ hit₁ hs₁ => ?_))
    have hall : List.take items.size (List.drop 0 items.toList) = items.toList := by
      rw [List.drop_zero]; exact List.take_of_length_le (by simp)
    rw [hall]
    rw [if_neg (by simp)]
    have ht₁ : IsTup h₁ t items := (ht.push _).extBut hs₁.extBut hlt
    refine wpAny_bind (wpAny_holding (tuple_end_hot (x1 := x1) (hotKeep hot fun o e => hs₁.extBut _ _ hx1 (Heap.get?_push_of_some _ e)) hx1 hit₁ ht₁ (by simp) fun h₂ he₂ => ?_))
    simp only [Option.isSome_none, Bool.false_eq_true, if_false]
    refine wpAny_pure (hQ h₂ fun b o hb e => he₂ b o hb (hs₁.extBut b o hb (Heap.get?_push_of_some _ e)))
theorem assign_tuple_hot {env : Env} {elts : List Expr} {k1} {pos : Pos} {t x1 : Addr} {items : Array Value} {Q : Unit → Shared → Prop} (hot : HotX.HotAt A x1 s.heap) (ht : IsTup s.heap t items)
    (hn : (assignEach elts env).length = items.size) (hstar : (assignEach elts env).findIdx? (·.1) = none)
    (h : ∀ h', Heap.ExtBut s.heap.objs.size s.heap h' → wpAny (model prog w) A (assignInOrder ((assignEach elts env).map (·.2)) items.toList) Q E { s with heap := h' }) :
    wpAny (model prog w) A (assign (.Tuple elts k1 pos) env (.ref t)) Q E s := by
  rw [assign_Tuple]
  refine wpAny_bind (wpAny_standAt ?_)
  unfold unpack
  rw [hn, hstar]
  exact wpAny_bind (wpAny_holding (unpackItems_hot hot ht h))
theorem walks_list_hot {x1 : Addr} (I ax : Addr) (hne : ax ≠ I) (hxI : x1 ≠ I) (items : Array Value) :
    Walks prog w A I [I, ax, x1] [I] items.size (fun i v => items[i]? = some v) (fun i h => h.IsListIter I ax i ∧ h.IsList ax items ∧ HotX.HotAt A x1 h) where
  sub := fun b hb => by simp at hb; simp [hb]
  frame := fun _ _ _ st hk => ⟨st.1.at fun o e => hk I (by simp) o e, st.2.1.at fun o e => hk ax (by simp) o e, hotKeep st.2.2 fun o e => hk x1 (by simp) o e⟩
  item := fun i s Q E hi st hQ => by
    refine wpAny_pyNext_list_item st.1 st.2.1 (x := items[i]) (by simp [hi]) fun h' hit' hs' => ?_
    exact hQ _ h' s.toks (by simp [hi]) ⟨hit', st.2.1.extBut hs'.extBut hne, hotKeep st.2.2 fun o e => hs'.extBut _ _ hxI e⟩ fun b o hb e => hs'.extBut b o (fun h => hb (by simp [h])) e
  done := fun s Q E st hQ => list_end_hot st.2.2 hxI st.1 st.2.1 (by simp) fun h' he' => hQ h' s.toks fun b o hb e => he' b o (fun h => hb (by simp [h])) e
  self := fun _ _ _ _ st hQ => wpAny_pyIter_listiter st.1 hQ
end

section
variable {X : Cx}
theorem cr_all_hot (hc : HotC X) : CallR X (.builtin "all") (rAll X.K) := by
  intro pins s σ H vs us Q I r h
  obtain ⟨a, bs, rfl, hs, q⟩ := h
  obtain ⟨its, rv, hl, _⟩ := I.list hs
  rw [Vals.ref1 r]
  have hb := rv.bls
  obtain ⟨x1, hot⟩ := hc.at I
  have hx1 : x1 ≠ s.heap.objs.size := by obtain ⟨_, o, _, ho, _⟩ := hot; exact Nat.ne_of_lt (Heap.lt_size ho)
  refine call_all_walk (iter_any hl.isList fun s₂ e2 st hne => ?_)
  subst e2
  refine ⟨_, _, _, _, _, _, _, rfl, walks_list_hot (A := X.A.in1) (x1 := x1) _ a hne hx1 its.toArray, ⟨st.1, st.2, hotKeep hot fun o e => Heap.get?_push_of_some _ e⟩, truth_bools hb, fun h' tk hk => ?_⟩
  refine ⟨.bl _, H, I.kept fun b o eo => hk b o (fun hmem => ?_) (Heap.get?_push_of_some _ eo), ?_, q⟩
  · rcases List.mem_cons.mp hmem with e1 | hmem
    · exact absurd (e1 ▸ Heap.lt_size eo) (Nat.lt_irrefl _)
    · cases hmem
  · show Value.bool _ = Value.bool _
    rw [← L2.all_range, hb, List.size_toArray, List.length_map]
theorem pg_tup_hot {pos : Pos} {es : List Expr} {k : Nat} {t : TGs} {n : Nat} (hc : HotC X) (h : PGs X es t)
    (hn : (assignEach es X.env).length = n := by rfl) (hst : (assignEach es X.env).findIdx? (·.1) = none := by rfl) : PG X (.Tuple es k pos) (gTup X.K n t) := by
  refine ⟨fun pins s σ H v u Q I r hw => ?_⟩
  obtain ⟨a, xs, e1, hq, hl, hw⟩ := hw
  subst e1
  cases r
  obtain ⟨its, rv, ht, hz⟩ := I.tuple hq
  obtain ⟨x1, hot⟩ := hc.at I
  refine assign_tuple_hot hot ht (by simp [hn, ← hl, rv.length]) hst fun h' hx => ?_
  have I1 : Inv X pins σ H { s with heap := h' } := I.kept (t' := s.toks) fun b o e => hx b o (Nat.ne_of_lt (Heap.lt_size e)) e
  exact h.run pins _ σ H xs _ Q I1 (by simpa using rv) hw
end
end Rf
/-! A list comprehension over a zip of two lists, while an exception is handled. -/
namespace Rf
open PySem L2 L2H PySem.Spec PyProof.Rows
abbrev cxBlkH (X : Cx) (s : Shared) (H : Hp) (scope : Scope) (cenv : Env) (fp : List Addr) : Cx := { X.blk s H scope cenv fp with pn := X.pn }
theorem turn_zipH {P : Program} {w : World} {K : PySem.W.Frag} {elts : List Expr} {kk : Nat} {tpos : Pos} {a b z TI TO i1 i2 : Addr} (D : ZipApart z TI TO i1 i2 a b) :
    TurnH P w K (.Tuple elts kk tpos) (Itz K a b) [z, TI, TO, i1, i2] z (fun i h => IsZip h z TI TO .none ∧ IsPair h TI (.ref i1) (.ref i2) ∧ (∃ x y, IsPair h TO x y) ∧ h.IsListIter i1 a i ∧ h.IsListIter i2 b i) where
  mem := by simp
  obj := fun i h st c hc => by
    obtain ⟨hz, hTI, ⟨x, y, hTO⟩, ⟨o1, e1, _, d1⟩, ⟨o2, e2, _, d2⟩⟩ := st
    have e' : c = z ∨ c = TI ∨ c = TO ∨ c = i1 ∨ c = i2 := by simpa using hc
    rcases e' with q | q | q | q | q
    · rw [q]; exact ⟨_, hz, fun v q => nomatch q⟩
    · rw [q]; exact ⟨_, hTI, fun v q => nomatch q⟩
    · rw [q]; exact ⟨_, hTO, fun v q => nomatch q⟩
    · rw [q]; exact ⟨o1, e1, fun v q => by rw [d1] at q; cases q⟩
    · rw [q]; exact ⟨o2, e2, fun v q => by rw [d2] at q; cases q⟩
  keep := fun i h h' st k => by
    obtain ⟨hz, hTI, ⟨x, y, hTO⟩, h1, h2⟩ := st
    exact ⟨k z (by simp) _ hz, k TI (by simp) _ hTI, ⟨x, y, k TO (by simp) _ hTO⟩, h1.at fun o q => k i1 (by simp) o q, h2.at fun o q => k i2 (by simp) o q⟩
  item := by
    intro X hP hw hK hc i pins s σ H E I hf st hg
    subst hP hw hK
    obtain ⟨hz, hTI, ⟨x0, y0, hTO⟩, h1, h2⟩ := st
    obtain ⟨xs, ys, x, y, hqx, hqy, hx, hy⟩ := hg
    obtain ⟨its, rv, p, _⟩ := I.list hqx
    obtain ⟨its2, rv2, p2, _⟩ := I.list hqy
    obtain ⟨u, hu, ru⟩ := rv.get hx
    obtain ⟨u2, hu2, ru2⟩ := rv2.get hy
    have hzl : z < s.heap.objs.size := Heap.lt_size hz
    refine wpAny_pyNext_zip_item D hz hTI hTO h1 h2 p.isList p2.isList (x := u) (y := u2) (by simpa using hu) (by simpa using hu2) fun h' z' TO' h1' h2' hT hsz hk => ?_
    refine ⟨_, rfl, wpAny_letOwnedTupleGo_zip (s := { s with heap := h' }) z' fun h'' z'' sb => ?_⟩
    have hT2 : h''.get? s.heap.objs.size = some { cls := .type "tuple", data := .seq #[u, u2] } := (sb.2 _ (Nat.ne_of_gt hzl)).trans hT
    have new : ObjOk X.prog X.w (upd H s.heap.objs.size (.tup [x, y])) h'' s.heap.objs.size (.tup [x, y]) :=
      ⟨by show 2 ≤ sizeLine; decide, [u, u2], .cons ru (.cons ru2 .nil), ⟨_, hT2, rfl, _, rfl⟩⟩
    have I1 : Inv X pins σ (upd H s.heap.objs.size (.tup [x, y])) { s with heap := h'' } :=
      I.turnedNew (t' := s.toks) (ch := [z, TI, TO, i1, i2]) (fun c o hb q => (sb.2 c (fun q' => hb (by simp [q']))).trans (hk c o (fun q' => hb (by simp [q'])) (fun q' => hb (by simp [q'])) (fun q' => hb (by simp [q'])) (fun q' => hb (by simp [q'])) q)) hf (Nat.le_refl _) new
    refine ⟨.ref s.heap.objs.size, _, I1, rfl, ⟨_, x, y, rfl, I.hok.fresh (Nat.le_refl _), rfl, fun l hl => by rw [I.list_inj hl hqx]; exact hx, fun l hl => by rw [I.list_inj hl hqy]; exact hy⟩, ⟨z'', ?_, ⟨u, u2, ?_⟩, ?_, ?_⟩, fun c hcm => ?_⟩
    · exact (sb.2 _ D.TIz).trans (hk _ _ D.TIz D.TITO D.TIi1 D.TIi2 hTI)
    · exact (sb.2 _ D.TOz).trans TO'
    · exact h1'.at fun o q => (sb.2 _ D.i1z).trans q
    · exact h2'.at fun o q => (sb.2 _ D.i2z).trans q
    · have hlt : c < s.heap.objs.size := by
        have e' : c = z ∨ c = TI ∨ c = TO ∨ c = i1 ∨ c = i2 := by simpa using hcm
        rcases e' with q | q | q | q | q
        · rw [q]; exact hzl
        · rw [q]; exact Heap.lt_size hTI
        · rw [q]; exact Heap.lt_size hTO
        · rw [q]; obtain ⟨_, e1, _⟩ := h1; exact Heap.lt_size e1
        · rw [q]; obtain ⟨_, e2, _⟩ := h2; exact Heap.lt_size e2
      rw [upd_ne (Nat.ne_of_lt hlt)]
      exact (hf c hcm).1
  done := by
    intro X hP hw hK hc i pins s σ H E I hf st hg
    subst hP hw hK
    obtain ⟨hz, hTI, ⟨x0, y0, hTO⟩, h1, h2⟩ := st
    obtain ⟨xs, ys, hqx, hqy, hend⟩ := hg
    obtain ⟨its, rv, p, _⟩ := I.list hqx
    obtain ⟨its2, rv2, p2, _⟩ := I.list hqy
    have l1 := rv.length
    have l2 := rv2.length
    have he : its.toArray[i]? = none ∨ its2.toArray[i]? = none := by
      rcases hend with q | q
      · exact .inl (by simp; omega)
      · exact .inr (by simp; omega)
    obtain ⟨p1, ⟨hh, v1, e1, c1⟩, hp⟩ := hc
    have hotx : HotX.HotAt X.A p1.1 s.heap := ⟨hh, p1.2, v1, (I.pin p1 (List.mem_append_left _ hp)).1, e1, c1⟩
    have ne : ∀ b ∈ [z, TI, TO, i1, i2], p1.1 ≠ b := fun b hb => (hf b hb).2.2.2.2.2 p1 (List.mem_append_left _ hp)
    exact pyNext_zip_end_hot hotx (ne z (by simp)) (ne TO (by simp)) (ne i1 (by simp)) (ne i2 (by simp)) D hz hTI hTO h1 h2 p.isList p2.isList he fun h' hk => ⟨rfl, I.turnedL (t' := s.toks) (ch := [z, TI, TO, i1, i2]) (fun c o hb q =>
      hk c o (fun q' => hb (by simp [q'])) (fun q' => hb (by simp [q'])) (fun q' => hb (by simp [q'])) (fun q' => hb (by simp [q'])) q) hf⟩
  self := fun A i s Q E st h => wpAny_pyIter_zip st.1 h
theorem pi_zipH {X : Cx} {e e2 : Expr} {ta : TA} {p pos tpos : Pos} {elts : List Expr} {kk : Nat} (hg : Gl X "zip") (hm : X.mg "zip" = none) (ha : PA X [e, e2] ta)
    (hs : starEach [e, e2] X.env = (false, eval e X.env) :: starEach [e2] X.env := by rfl) (hpl : (backTo pos (starEach [e2] X.env)).any (·.1) = false := by rfl) :
    PIH X (.Tuple elts kk tpos) (.Call (.Name "zip" p) [e, e2] [] pos) (iZip X.K ta) := by
  refine ⟨fun pins s σ H R I h => ?_⟩
  refine Call_ (ld_blt I hg hm PyProof.Rows.boot_zip (PyProof.Rows.callWith_type1 (thn (ha.run pos pins s σ H _ I h) fun us s1 ⟨vs, H1, I1, r1, q1⟩ => ?_) hs hpl))
  obtain ⟨a, b, xs, ys, ex, hqx, hqy, q⟩ := q1
  subst ex
  cases r1 with
  | cons r rr =>
    cases rr with
    | cons r' rr =>
      cases rr
      cases r
      cases r'
      obtain ⟨its, rv, p1, _⟩ := I1.list hqx
      obtain ⟨its2, rv2, p2, _⟩ := I1.list hqy
      have la : a < s1.heap.objs.size := p1.lt
      have lb : b < s1.heap.objs.size := p2.lt
      refine call_zip_2 p1.isList p2.isList fun h' hz hTI hTO h1 h2 hsz hk => wpAny_pyIter_zip hz ?_
      have I2 : Inv X pins σ H1 { s1 with heap := h' } := I1.kept (t' := s1.toks) hk
      refine ⟨s1.heap.objs.size + 4, [s1.heap.objs.size + 4, s1.heap.objs.size + 2, s1.heap.objs.size + 3, s1.heap.objs.size, s1.heap.objs.size + 1], _, _, H1, rfl, I2, turn_zipH (PySem.W.ktu_apart s1.heap.objs.size a b la lb), ⟨hz, hTI, ⟨_, _, hTO⟩, h1, h2⟩, fun c hcm => ?_, q⟩
      have e' : c = s1.heap.objs.size + 4 ∨ c = s1.heap.objs.size + 2 ∨ c = s1.heap.objs.size + 3 ∨ c = s1.heap.objs.size ∨ c = s1.heap.objs.size + 1 := by simpa using hcm
      have hle : s1.heap.objs.size ≤ c := by
        rcases e' with z | z | z | z | z
        · rw [z]; exact Nat.le_add_right _ _
        · rw [z]; exact Nat.le_add_right _ _
        · rw [z]; exact Nat.le_add_right _ _
        · rw [z]; exact Nat.le_refl _
        · rw [z]; exact Nat.le_add_right _ _
      exact I1.fpOk hle (I1.hok.fresh hle)

section
variable {X : Cx}
theorem block_startH {pins : List (Addr × Obj)} {σ : L2.St} {H : Hp} {s : Shared} {scope : Scope} {own : List (Str × Nat)} {fp : List Addr} (I : Inv X pins σ H s) (ok : BlkOk X.N X.env.scope scope own) (hN : X.N.Nodup) (hfp : ∀ b ∈ fp, FpOk X pins H b ∧ b < s.heap.objs.size) :
    Inv (cxBlkH X s H scope (compEnvC scope (cellsFrom (s.heap.objs.size + 1) scope.names (cloFrom X.env.cells scope.names [])) s.heap.objs.size X.env) fp) [] (wipe σ (own.map (·.2))) H { s with heap := pushCells (s.heap.push { cls := .type "dict", data := .dict #[] }) scope.names } := by
  have J := block_start I ok hN hfp
  refine ⟨⟨J.ok.mod, J.ok.kind, J.ok.glob, J.ok.blt, J.ok.above, J.ok.inj, J.ok.has, J.ok.cab, J.ok.hd, J.ok.frames, J.ok.stk, J.ok.exf, J.ok.bs, J.ok.bsz, J.ok.noex, J.ok.exfs, J.ok.funs, J.ok.frf⟩, J.os, J.bare, J.base, J.loc, J.cell, J.free, J.freeC, fun p hp => ?_, J.hok, J.len⟩
  have hp : p ∈ X.pn := (List.mem_append.mp hp).elim id fun z => nomatch z
  obtain ⟨g1, g2, g3, g4, g5⟩ := I.pin p (List.mem_append_left _ hp)
  refine ⟨pushCells_keeps _ _ _ _ (Heap.get?_push_of_some _ g1), g2, Nat.ne_of_lt (Heap.lt_size g1), fun z => ?_, g5⟩
  rcases List.mem_cons.mp (I.stkSub p.1 z) with z | z
  · exact g3 z
  · exact g4 z
theorem lc_coreH {pins : List (Addr × Obj)} {s : Shared} {σ : L2.St} {H : Hp} {Q : VK} {elt tg iter : Expr} {ifs : List Expr} {scope : Scope} {own : List (Str × Nat)} {pos pos' : Pos} {wi : TI} {g : TG} {tt : TT} {te : TE} {use : Option (Value → Sem Unit)} {Qf : Value → Shared → Prop}
    (hc : HotC X) (hN : X.N.Nodup) (I : Inv X pins σ H s) (hi : PIH X tg iter wi) (ok : BlkOk X.N X.env.scope scope own)
    (hg : ∀ (s : Shared) (H : Hp) (C : Addr) (cl : List (Str × Addr)) (fp : List Addr), PG (cxBlkH X s H scope (compEnvC scope cl C X.env) fp) tg g) (ht : ∀ (s : Shared) (H : Hp) (C : Addr) (cl : List (Str × Addr)) (fp : List Addr), PTs (cxBlkH X s H scope (compEnvC scope cl C X.env) fp) ifs tt)
    (he : ∀ (s : Shared) (H : Hp) (C : Addr) (cl : List (Str × Addr)) (fp : List Addr), PE (cxBlkH X s H scope (compEnvC scope cl C X.env) fp) elt te) (hs : ∀ x, foldedSetIterable iter X.env x = pure x)
    (h : tLc wi g tt te (own.map (·.2)) σ H Q)
    (hRR : ∀ D C s' m H', Inv X pins σ H' s' → Q (.ref D) H' → s'.heap.Ns C m → FpOk X pins H' C → compPost (model X.prog X.w) X.A X.xe use Qf (.ref D) C (.ok .next) s') :
    wpAny (model X.prog X.w) X.A (comprehension (.ListComp elt [⟨tg, iter, ifs, 0⟩] scope pos) scope X.env pos' (newList []) false (eval iter X.env) use) Qf X.xe s := by
  have hfree : ∀ y ∈ scope.names, y.2 = .free → ∃ c, X.env.cells.lookup y.1 = some c := fun y hy e => by
    rcases ok.free y hy e with k | k
    · exact I.ok.has _ (.inl k)
    · exact I.ok.has _ (.inr k)
  refine wpAny_comprehension_free (use := use) rfl hs (closure_ok hfree) ok.kind (fun y hy e => by rw [ok.uniq y hy, e])
    (thn (hi.run pins s σ H _ I h) fun xv s1 hx => thn hx fun itv s2 h2 => ?_)
  obtain ⟨it, fp, tn, J, H2, e, I2, T, st2, f2, q⟩ := h2
  subst e
  refine wpAny_newObj_type (newEnv_comp ?_) (by show 0 ≤ sizeLine; decide)
  generalize hD : s2.heap.objs.size = D
  have hDn : H2 D = none := I2.hok.fresh (Nat.le_of_eq hD)
  obtain ⟨W, ⟨m0, w0⟩, turn⟩ := q D hDn
  -- the new list
  generalize hs3 : ({ s2 with heap := s2.heap.push { cls := .type "list", data := .seq ([] : List Value).toArray } } : Shared) = s3
  have I3 : Inv X pins σ (upd H2 D (.lst [])) s3 := by
    rw [← hs3]
    refine I2.laid (t' := s2.toks) (fun b o e => Heap.get?_push_of_some _ e) (Nat.le_of_eq hD) ⟨Nat.zero_le _, [], 0, .nil, ?_⟩
    rw [← hD]
    exact Heap.get?_push_size _ rfl
  have h3 : s3.heap = s2.heap.push { cls := .type "list", data := .seq ([] : List Value).toArray } := by rw [← hs3]
  have sz : ∀ b ∈ fp, b < s2.heap.objs.size := fun b hb => by
    obtain ⟨o, e, _⟩ := T.obj _ _ st2 b hb
    exact Heap.lt_size e
  have f3 : ∀ b ∈ fp, FpOk X pins (upd H2 D (.lst [])) b ∧ b < s3.heap.objs.size := fun b hb => by
    have hlt := sz b hb
    refine ⟨⟨?_, (f2 b hb).2⟩, by rw [h3, Heap.size_push]; exact Nat.lt_succ_of_lt hlt⟩
    rw [upd_ne (by rw [← hD]; exact Nat.ne_of_lt hlt)]
    exact (f2 b hb).1
  have st3 : tn 0 s3.heap := T.keep _ _ _ st2 fun b _ o e => by rw [h3]; exact Heap.get?_push_of_some _ e
  have I4 := block_startH I3 ok hN f3
  have pg := hg s3 (upd H2 D (.lst [])) s3.heap.objs.size (cellsFrom (s3.heap.objs.size + 1) scope.names (cloFrom X.env.cells scope.names [])) fp
  have pt := ht s3 (upd H2 D (.lst [])) s3.heap.objs.size (cellsFrom (s3.heap.objs.size + 1) scope.names (cloFrom X.env.cells scope.names [])) fp
  have pe := he s3 (upd H2 D (.lst [])) s3.heap.objs.size (cellsFrom (s3.heap.objs.size + 1) scope.names (cloFrom X.env.cells scope.names [])) fp
  show codeAny _ _ (.compStart (.ListComp elt [⟨tg, iter, ifs, 0⟩] scope pos) 0 (.ref it) (.ref D) (compEnvC scope (cellsFrom (s3.heap.objs.size + 1) scope.names (cloFrom X.env.cells scope.names [])) s3.heap.objs.size X.env)) (compPost (model X.prog X.w) X.A X.xe use Qf (.ref D) s3.heap.objs.size) { s3 with heap := pushCells (s3.heap.push { cls := .type "dict", data := .dict #[] }) scope.names }
  have nfp : ∀ b ∈ fp, (upd H2 D (.lst [])) b = none := fun b hb => (f3 b hb).1.1
  generalize hce : compEnvC scope (cellsFrom (s3.heap.objs.size + 1) scope.names (cloFrom X.env.cells scope.names [])) s3.heap.objs.size X.env = ce at I4 pg pt pe ⊢
  have cL : ce.locals = s3.heap.objs.size := by subst hce; rfl
  generalize hH3 : upd H2 D (.lst []) = H3 at I3 I4 pg pt pe w0 nfp f3
  generalize hs4 : ({ s3 with heap := pushCells (s3.heap.push { cls := .type "dict", data := .dict #[] }) scope.names } : Shared) = s4 at I4 ⊢
  have st4 : tn 0 s4.heap := T.keep _ _ _ st3 fun b _ o e => by rw [← hs4]; exact pushCells_keeps _ _ _ _ (Heap.get?_push_of_some _ e)
  have stat : ∀ {σ' : L2.St} {H' : Hp} {s' : Shared}, Inv (cxBlkH X s3 H3 scope ce fp) [] σ' H' s' → (∀ b ∈ fp, H' b = none) → ∀ b ∈ fp, FpOk (cxBlkH X s3 H3 scope ce fp) [] H' b := fun {σ' H' s'} I' hn b hb =>
    ⟨hn b hb, (I'.ok.exf b hb).1, I'.ok.exfs b hb, .inl hb, fun x c e => (I'.ok.exf b hb).2 x c e, fun p hp => (f3 b hb).1.2.2.2.2.2 p (List.mem_append_left _ ((List.mem_append.mp hp).elim id fun z => nomatch z))⟩
  have loop : codeAny (model X.prog X.w) X.A (.compLoop (.ListComp elt [⟨tg, iter, ifs, 0⟩] scope pos) 0 (.ref it) (.ref D) ce) (compPost (model X.prog X.w) X.A X.xe use Qf (.ref D) s3.heap.objs.size) s4 := by
    refine compLoop_any (fun n s' => ∃ i H', Inv (cxBlkH X s3 H3 scope ce fp) [] (wipe σ (own.map (·.2))) H' s' ∧ tn i s'.heap ∧ (∀ b ∈ fp, H' b = none) ∧ W i n H') ?_ m0 ⟨0, H3, I4, st4, nfp, w0⟩
    rintro n s5 ⟨i, H5, I5, st5, n5, w5⟩
    rcases turn i n H5 w5 with ⟨stop, qq⟩ | ⟨go, Nx, hNx, step⟩
    · have td := T.done (cxBlkH X s3 H3 scope ce fp) rfl rfl rfl hc i [] s5 _ H5 (fun _ _ => False) I5 (stat I5 n5) st5 stop
      refine thnF td fun r s6 ⟨hr, I6⟩ => ?_
      subst hr
      -- back in the def's context
      have I7 : Inv X pins σ H5 s6 := I3.call' (ch := fp) I6.os I6.base I6.hok I6.bare fun b hb => ⟨(f3 b hb).1.2.2.2.1, (f3 b hb).1.2.1, (f3 b hb).1.2.2.2.2.1, (f3 b hb).1.2.2.2.2.2⟩
      have nC : H5 s3.heap.objs.size = none := by
        have z : H5 ce.locals = none := I6.free
        rw [cL] at z
        exact z
      obtain ⟨m, hn, _⟩ := I6.loc
      have hn : s6.heap.Ns ce.locals m := hn
      rw [cL] at hn
      exact hRR D s3.heap.objs.size s6 m H5 I7 qq hn (I3.fpOk (Nat.le_refl _) nC)
    · have ti := T.item (cxBlkH X s3 H3 scope ce fp) rfl rfl rfl hc i [] s5 _ H5 (fun _ _ => False) I5 (stat I5 n5) st5 go
      refine thnF ti fun r s6 ⟨u, hr, h6⟩ => ?_
      subst hr
      refine thnF h6 fun _ s7 ⟨x, H7, I7, r7, y7, st7, n7⟩ => ?_
      have I7' := I7.pinned (stat I7 n7) (T.obj _ _ st7)
      refine thnF (pg.run _ s7 _ H7 x u _ I7' r7 (step x H7 y7)) fun _ s8 ⟨σ8, H8, I8, hw8, q8⟩ => ?_
      refine thnF (pt.run _ s8 σ8 H8 _ I8 q8) fun b s9 ⟨H9, I9, q9⟩ => ?_
      -- the turn's end
      have fin : ∀ {s' : Shared} {H' : Hp}, Inv (cxBlkH X s3 H3 scope ce fp) ([] ++ pinsAt fp s7.heap) σ8 H' s' → Nx H' → ∃ m, m < n ∧ ∃ i H', Inv (cxBlkH X s3 H3 scope ce fp) [] (wipe σ (own.map (·.2))) H' s' ∧ tn i s'.heap ∧ (∀ b ∈ fp, H' b = none) ∧ W i m H' := fun {s' H'} I' nx => by
        obtain ⟨m', hm, w'⟩ := hNx H' nx
        have pin' : ∀ b ∈ fp, ∀ o, s7.heap.get? b = some o → s'.heap.get? b = some o ∧ H' b = none := fun b hb o e =>
          let z := I'.pin (b, o) (List.mem_append_right _ (List.mem_append_right _ (mem_pinsAt hb e)))
          ⟨z.1, z.2.1⟩
        have hl : (wipe σ (own.map (·.2))).length = σ8.length := by rw [← hw8, wipe_length]
        refine ⟨m', hm, i + 1, H', (I'.unpinned (pins := [])).weak hl (fun j v e => ?_), T.keep _ _ _ st7 fun b hb o e => (pin' b hb o e).1, fun b hb => ?_, w'⟩
        · rw [← hw8] at e
          exact (wipe_some e).1
        · obtain ⟨o, e, _⟩ := T.obj _ _ st7 b hb
          exact (pin' b hb o e).2
      cases b with
      | false =>
        simp only [Bool.false_eq_true, if_false] at q9 ⊢
        exact fin I9 q9
      | true =>
        simp only [if_true] at q9 ⊢
        refine thnF (pe.run _ s9 σ8 H9 _ I9 q9) fun z s10 ⟨yv, H10, I10, r10, acc, hD10, hz10, nx⟩ => ?_
        exact app_ok (X := cxBlkH X s3 H3 scope ce fp) I10 hD10 hz10 r10 fun s11 I11 => fin I11 nx
  exact codeAny_compStart_list loop (T.self X.A 0 _ _ _ st4 loop)

theorem pe_lcH {elt tg iter : Expr} {ifs : List Expr} {scope : Scope} {own : List (Str × Nat)} {pos : Pos} {wi : TI} {g : TG} {tt : TT} {te : TE} (hc : HotC X) (hN : X.N.Nodup) (hi : PIH X tg iter wi) (ok : BlkOk X.N X.env.scope scope own)
    (hg : ∀ (s : Shared) (H : Hp) (C : Addr) (cl : List (Str × Addr)) (fp : List Addr), PG (cxBlkH X s H scope (compEnvC scope cl C X.env) fp) tg g) (ht : ∀ (s : Shared) (H : Hp) (C : Addr) (cl : List (Str × Addr)) (fp : List Addr), PTs (cxBlkH X s H scope (compEnvC scope cl C X.env) fp) ifs tt)
    (he : ∀ (s : Shared) (H : Hp) (C : Addr) (cl : List (Str × Addr)) (fp : List Addr), PE (cxBlkH X s H scope (compEnvC scope cl C X.env) fp) elt te) (hs : ∀ x, foldedSetIterable iter X.env x = pure x := by intro _; rfl) :
    PE X (.ListComp elt [⟨tg, iter, ifs, 0⟩] scope pos) (tLc wi g tt te (own.map (·.2))) := by
  refine ⟨fun pins s σ H Q I h => ?_⟩
  rw [eval_ListComp]
  refine lc_coreH hc hN I hi ok hg ht he hs h fun D C s' m H' I' q hn f => ⟨m, hn, fun h'' sb => ?_⟩
  obtain ⟨f0, f1, f2, f3, f4, f5⟩ := f
  exact ⟨.ref D, H', I'.turned (t' := s'.toks) (fun b o hb e => (sb.2 b hb).trans e) f0 f1 f3 f4 f5, rfl, q⟩
end
/-! ### a class with its own __init__, called: its context is None -/
section
variable {X : Cx} {o e : Expr} {es : List Expr} {to te : TE} {ta : TA} {f : Str} {p p' p1 p2 pos : Pos}
theorem mk_endN {pins : List (Addr × Obj)} {σ : L2.St} {H1 H2 : Hp} {Q : XK} {hp hp2 h2 : Heap} {g1 g2 : Array GenState} {d1 d2 : Drawn} {t1 t2 : Nat} {os1 os2 : OsState} {a C d : Addr} {fs : List (Str × V)} (T : Raises X (.ref C)) (I1 : Inv X pins σ H1 ⟨hp, g1, d1, t1, os1⟩)
    (ha : hp.objs.size ≤ a) (k : ∀ b o, hp.get? b = some o → hp2.get? b = some o) (un : Un (frs X.stack) [] (upd H1 a (exo a C none)) H2 hp2 h2) (hok : HOk X.prog X.w H2 h2) (ho : os2 = os1) (hb : AllBare g2)
    (ea : H2 a = some (exo a C (some d))) (ed : H2 d = some (exd d fs)) (hd1 : H1 d = none) (q : Q (.ref C) (some d) (upd (del H2 a) d (.xd fs))) : L2N.MkP X pins σ Q (.ref a) ⟨h2, g2, d2, t2, os2⟩ := by
  obtain ⟨t0, G, J, kG, ge, hoe, na⟩ := mk_end0 (d2 := d2) (t2 := t2) I1 ha k un hok ho hb ea ed hd1
  exact ⟨a, _, _, ⟨G, g2, d2, t2, os2⟩, _, .ref C, some d, rfl, J, kG, ge, hoe, ⟨rfl, rfl, fun vs e => by cases e; rfl⟩, rfl, rfl, na, rfl, hb, T, q⟩
theorem pmk_oexN {CX : CXT} {x : Str} {C fI : Addr} {k : Nat} {fd : FuncData} {ps : List Str} {sp : Sp} {ds : List Value} {dvs : List V} (T : OexC X.K C) (iC : PySem.W.findIn X.K (.ref C) "__init__" = some (some (.ref fI))) (tI : PySem.W.typeIn X.K (.ref fI) = some (.type "function"))
    (F1 : FnOkG X.prog X.w X.K X.mg X.base CX k fI fd ps sp) (hr : RoomG (k + 1) X.A) (hb : Binds X.K fd ps ds) (hd : Vals dvs ds) (hx : Passes CX X (fun _ _ _ => False)) (hg : Gl X x) (hm : X.mg x = some (.ref C)) (ha : PA X (e :: es) ta)
    (hdb : (x == ("__debug__" : Str)) = false := by decide) (he : starEach (e :: es) X.env = (false, eval e X.env) :: starEach es X.env := by rfl) (hpl : (backTo pos (starEach es X.env)).any (·.1) = false := by rfl) :
    L2N.PMk X (.Call (.Name x p) (e :: es) [] pos) (tMkO C sp dvs ta) := by
  intro pins s σ H Q I h
  obtain ⟨nm, q, N, bs, bm, sn, sub, ab, col, dd, k0, k1, k2, k3, k5, hC, hbm⟩ := T.cls
  refine wpAny_Call_Name_kw (ld_glob I hg hm ?_ hdb)
  refine PySem.W.callWith_K (h₀ := X.base) I.ok.mod.kin T.kC (thn (ha.run pos pins s σ H _ I h) fun us s1 ⟨vs, H1, I1, r1, hz, q1⟩ => ⟨I1.kIn, ?_⟩) he hpl
  show wpAny _ _ (call (.ref C) us) _ _ _
  obtain ⟨hp, g, dr, tk, os⟩ := s1
  have hsz : hp.objs.size ≤ hp.objs.size + 1 := Nat.le_succ _
  have hn : H1 (hp.objs.size + 1) = none := I1.hok.fresh hsz
  have hq := q1 (hp.objs.size + 1) hn
  have kk : ∀ b o, hp.get? b = some o → ((hp.push (PySem.W.kdv_tup us)).push (PySem.HandSPX.excO C hp.objs.size)).get? b = some o := fun b o e => Heap.get?_push_of_some _ (Heap.get?_push_of_some _ e)
  have hget : ((hp.push (PySem.W.kdv_tup us)).push (PySem.HandSPX.excO C hp.objs.size)).get? (hp.objs.size + 1) = some (PySem.HandSPX.excO C hp.objs.size) := by heap_get
  have I2 : Inv X pins σ (upd H1 (hp.objs.size + 1) (exo (hp.objs.size + 1) C none)) ⟨(hp.push (PySem.W.kdv_tup us)).push (PySem.HandSPX.excO C hp.objs.size), g, dr, tk, os⟩ :=
    I1.laid (t' := tk) (a := hp.objs.size + 1) (o := exo (hp.objs.size + 1) C none) (h' := (hp.push (PySem.W.kdv_tup us)).push (PySem.HandSPX.excO C hp.objs.size)) kk hsz (exo_ok hget)
  have r2 : Vals (V.ref (hp.objs.size + 1) :: (vs ++ dvs)) (Value.ref (hp.objs.size + 1) :: (us ++ ds)) := .cons rfl (r1.append hd)
  have hl : (Value.ref (hp.objs.size + 1) :: us ++ ds).length = ps.length := by
    have e := r2.length
    rw [F1.len _ _ _ _ hq] at e
    exact e.symm
  have hus : us.length ≤ sizeLine := by
    rw [← Paired.length r1, sizeLine_eq]
    omega
  refine wpAny_call (PySem.HandSPX.call_own F.excBase_ValueError (fun Y => PySem.HandSPX.refsVE_contains Y bm hbm) (I1.kIn _ _ hC) (PySem.W.looks_findIn I1.kIn iC) (fun self => PySem.W.bind_fn I1.kIn self tI) hus
    (codeAny_mono (F1.run _ X.stack _ _ ⟨Value.ref (hp.objs.size + 1) :: us, []⟩ (Value.ref (hp.objs.size + 1) :: (us ++ ds)) _ _ (fun _ _ _ => False) (hr.make C us []) (I2.env0.make C us []) (hb _ (Value.ref (hp.objs.size + 1) :: us) I2.kIn hl) r2 hq) fun r s' hq' => ?_))
  cases r with
  | error er => exact hx pins σ _ _ er s' I2 hq'
  | ok fl =>
    cases fl with
    | ret u =>
      obtain ⟨v, H2, os2, bare2, un2, hok2, rv, ev, d, fs, ea, ed, hd1, q2⟩ := hq'
      subst ev
      obtain ⟨h2, g2, d2, t2, os'⟩ := s'
      exact ⟨rv, mk_endN (raises_own T.exC T.tyC) I1 hsz kk un2 hok2 os2 bare2 ea ed hd1 q2⟩
    | next => exact False.elim hq'
    | brk => exact False.elim hq'
    | cont => exact False.elim hq'
end
end Rf
namespace Rf
open PySem L2 PySem.Spec PyProof.Rows
theorem pick_one (items : Array Value) : slicePick items none none (some 1) = items := by
  rw [show slicePick items none none (some 1) = slicePick items none none none from rfl]
  unfold slicePick
  have h : sliceBounds none none none items.size = (0, (items.size : Int), 1) := by
    first | rfl | simp [sliceBounds]
  rw [h]
  show ((sliceRange 0 (items.size : Int) 1).filterMap (items[·]?)).toArray = _
  have h2 : sliceRange 0 (items.size : Int) 1 = List.range items.size := by
    unfold sliceRange
    have h3 : (if (0 : Int) < (items.size : Int) then ((items.size : Int) - 0 + 1 - 1) / 1 else 0) = items.size := by
      split <;> omega
    show List.map (fun (k : Nat) => (0 + 1 * (k : Int)).toNat) (List.range (if (0 : Int) < (items.size : Int) then ((items.size : Int) - 0 + 1 - 1) / 1 else 0).toNat) = _
    rw [h3, Int.toNat_natCast]
    refine (List.map_congr_left fun k _ => ?_).trans (List.map_id _)
    show (0 + 1 * (k : Int)).toNat = k
    omega
  rw [h2, PySem.W.krv_all]
/-! ### xs[::k], k is 1 or -1 -/
def stepK (K : PySem.W.Frag) (a : Addr) (Q : VK) (i : Int) (H : Hp) : Prop := (i = 1 ∨ i = -1) ∧ ∃ xs, SqL K H a xs ∧ ∀ p, H p = none → Q (.ref p) (upd H p (.lst (if i = 1 then xs else xs.reverse)))
def tStepL (K : PySem.W.Frag) (te tk : TE) : TE := fun σ H Q => te σ H fun x H1 => ∃ a, x = .ref a ∧ tk σ H1 fun y H2 => ∃ i, y = .int i ∧ stepK K a Q i H2
theorem pe_stepL {X : Cx} {e ek : Expr} {te tk : TE} {p3 pos : Pos} (he : PE X e te) (hk : PE X ek tk) : PE X (.Subscript e (.Slice none none (some ek) p3) pos) (tStepL X.K te tk) := by
  refine ⟨fun pins s σ H Q I h => ?_⟩
  refine Subscript_ (thn (he.run pins s σ H _ I h) fun v s1 ⟨x, H1, I1, r1, q1⟩ => ?_)
  obtain ⟨a, ex, q⟩ := q1
  subst ex
  cases r1
  have hst : PO X (some ek) (tPart tk) := po_some hk
  refine wpAny_Slice (thn (po_none.run pins s1 σ H1 (fun o H2 => o = none ∧ H2 = H1) I1 ⟨rfl, rfl⟩) fun vl s2 ⟨l, H2, I2, pl, el, e2⟩ => ?_)
  subst el e2
  refine thn (po_none.run pins s2 σ H2 (fun o H3 => o = none ∧ H3 = H2) I2 ⟨rfl, rfl⟩) fun vu s3 ⟨u, H3, I3, pu, eu, e3⟩ => ?_
  subst eu e3
  refine thn (hst.run pins s3 σ H3 (fun o H4 => match o with | some i => stepK X.K a Q i H4 | none => False) I3 q) fun vs s4 ⟨o, H4, I4, ps, q⟩ => ?_
  cases o with
  | none => exact q.elim
  | some i =>
  obtain ⟨eo, xs, hx, q⟩ := q
  have I5 : Inv X pins σ H4 { s4 with heap := s4.heap.push { cls := .type "slice", data := .fields #[vl, vu, vs] } } := I4.kept (t' := s4.toks) fun b ob q => Heap.get?_push_of_some _ q
  obtain ⟨its, r, ht, hz⟩ := I5.list hx
  have hlen := r.length
  show wpAny (model X.prog X.w) X.A (subscriptTail e (.Slice none none (some ek) p3) (.ref a) (.ref s4.heap.objs.size)) (EP X pins σ Q) X.xe { s4 with heap := s4.heap.push { cls := .type "slice", data := .fields #[vl, vu, vs] } }
  refine tail_any (ops := [.ref a, .ref s4.heap.objs.size]) ht.isList.typeIs (PySem.slot_list_getitem.lookup) ?_ (by with_unfolding_all rfl)
  refine wpAny_getItem_list_slice ht.isList (Heap.IsSliceOf.new _ vl vu vs) pl pu ps (by rcases eo with rfl | rfl <;> decide) ?_ (by rw [List.size_toArray]; omega)
  rcases eo with rfl | rfl
  · rw [pick_one]
    refine ⟨.ref _, _, I5.laid (t' := s4.toks) (o := .lst xs) (fun b ob q => Heap.get?_push_of_some _ q) (Nat.le_refl _) ?_, rfl, q _ (I5.hok.fresh (Nat.le_refl _))⟩
    exact ⟨hz, _, 0, r, Heap.get?_push_size _ rfl⟩
  · rw [PySem.W.krv_pick]
    refine ⟨.ref _, _, I5.laid (t' := s4.toks) (o := .lst xs.reverse) (fun b ob q => Heap.get?_push_of_some _ q) (Nat.le_refl _) ?_, rfl, q _ (I5.hok.fresh (Nat.le_refl _))⟩
    exact ⟨by rw [List.length_reverse]; exact hz, _, 0, r.reverse, Heap.get?_push_size _ rfl⟩
end Rf
namespace Rf
open PySem PySem.Spec PyProof.Rows
/-- zip whose last tuple is still held elsewhere -/
abbrev ZOut (h : Heap) (z TI TO T : Addr) (f : Bool) : Prop := h.get? z = some { cls := .type "zip", dict := none, data := .fields #[rawInt T, .bool f, .bool false, .ref TI, .ref TO], slots := #[] }
section
variable {prog : Program} {w : World} {A : Around} {E : Value → Shared → Prop} {s : Shared}
theorem owned_out {z TI TO T : Addr} {f : Bool} {oT : Obj} {Q : Bool → Shared → Prop} (hz : ZOut s.heap z TI TO T f) (hT : s.heap.get? T = some oT)
    (hQ : ∀ h', ZOut h' z TI TO T true → Heap.SameBut z s.heap h' → Q false { s with heap := h' }) : wpAny (model prog w) A (Builtin.SmallTypes.ownedTupleIsFree (.ref z)) Q E s := by
  unfold Builtin.SmallTypes.ownedTupleIsFree
  refine wpAny_bind (wpAny_field hz rfl (x := rawInt T) rfl ?_)
  show wpAny _ _ (loadIfAlive ((T : Int).toNat) >>= _) _ _ _
  rw [Int.toNat_natCast]
  refine wpAny_bind (W.kdx_alive hT ?_)
  simp only [Option.isNone_some, Bool.false_eq_true, if_false]
  refine wpAny_bind (wpAny_field hz rfl (x := .bool f) rfl ?_)
  cases f with
  | true =>
    rw [if_neg (show ¬ ((Value.bool true != Value.bool true) = true) from Bool.false_ne_true)]
    exact wpAny_pure (hQ s.heap hz (Heap.SameBut.refl _ _))
  | false =>
    rw [if_pos (show (Value.bool false != Value.bool true) = true from rfl)]
    exact wpAny_bind (wpAny_setField_rec hz (by simp) fun h₃ he₃ hs₃ => wpAny_pure (hQ h₃ he₃ hs₃))
theorem zip_out_item {z TI TO T i1 i2 l1 l2 : Addr} {f : Bool} {oT : Obj} {k1 k2 : Nat} {xs ys : Array Value} {x y : Value} {Q : Value → Shared → Prop} (D : ZipApart z TI TO i1 i2 l1 l2)
    (hz : ZOut s.heap z TI TO T f) (hT : s.heap.get? T = some oT) (hTI : IsPair s.heap TI (.ref i1) (.ref i2))
    (h1 : s.heap.IsListIter i1 l1 k1) (h2 : s.heap.IsListIter i2 l2 k2) (hl1 : s.heap.IsList l1 xs) (hl2 : s.heap.IsList l2 ys) (hx : xs[k1]? = some x) (hy : ys[k2]? = some y)
    (hQ : ∀ h', ZOut h' z TI TO T true → h'.IsListIter i1 l1 (k1 + 1) → h'.IsListIter i2 l2 (k2 + 1) → IsPair h' s.heap.objs.size x y → h'.objs.size = s.heap.objs.size + 1 →
      (∀ c o, c ≠ z → c ≠ i1 → c ≠ i2 → s.heap.get? c = some o → h'.get? c = some o) → Q (.ref s.heap.objs.size) { s with heap := h' }) :
    wpAny (model prog w) A (Builtin.«zip.__next__» ⟨[.ref z], []⟩) (fun fin s' => ∃ v, fin = .done (.ret v) ∧ Q v s') E s := by
  show wpAny _ _ (field (.ref z) 2 >>= _) _ _ _
  refine wpAny_bind (wpAny_field hz rfl (x := .bool false) rfl ?_)
  show wpAny _ _ (field (.ref z) 3 >>= _) _ _ _
  refine wpAny_bind (wpAny_field hz rfl (x := .ref TI) rfl ?_)
  refine wpAny_bind (wpAny_seqItems hTI rfl ?_)
  show wpAny _ _ (Builtin.SmallTypes.ownedTupleIsFree (.ref z) >>= _) _ _ _
  refine wpAny_bind (owned_out hz hT fun h₁ hz₁ hs₁ => ?_)
  simp only [Bool.false_eq_true, if_false]
  refine wpAny_bind ?_
  simp only [List.forIn_toArray, List.forIn_cons, List.forIn_nil]
  refine wpAny_bind (wpAny_bind (wpAny_holding ?_))
  show wpAny _ _ (Builtin.SmallTypes.nextOf (.ref i1) >>= _) _ _ _
  refine wpAny_bind (wpAny_nextOf_list_item (h1.extBut hs₁.extBut D.i1z) (hl1.extBut hs₁.extBut D.l1z) hx fun h₂ h1₂ hs₂ => wpAny_pure (wpAny_pure ?_))
  refine wpAny_bind (wpAny_bind (wpAny_holding ?_))
  show wpAny _ _ (Builtin.SmallTypes.nextOf (.ref i2) >>= _) _ _ _
  refine wpAny_bind (wpAny_nextOf_list_item ((h2.extBut hs₁.extBut D.i2z).extBut hs₂.extBut D.i12.symm) ((hl2.extBut hs₁.extBut D.l2z).extBut hs₂.extBut D.l2i1) hy fun h₄ h2₄ hs₄ => wpAny_pure (wpAny_pure (wpAny_pure ?_)))
  have hsz : h₄.objs.size = s.heap.objs.size := by rw [hs₄.1, hs₂.1, hs₁.1]
  have hk₄ : ∀ c o, c ≠ z → c ≠ i1 → c ≠ i2 → s.heap.get? c = some o → h₄.get? c = some o := fun c o c1 c3 c4 e =>
    hs₄.extBut _ _ c4 (hs₂.extBut _ _ c3 (hs₁.extBut _ _ c1 e))
  have hz₄ : ZOut h₄ z TI TO T true := hs₄.extBut _ _ D.i2z.symm (hs₂.extBut _ _ D.i1z.symm hz₁)
  have h1₄ : h₄.IsListIter i1 l1 (k1 + 1) := h1₂.extBut hs₄.extBut D.i12
  refine wpAny_bind (wpAny_newTuple (hsz := by show 2 ≤ sizeLine; decide) ?_)
  refine wpAny_pure ⟨_, rfl, ?_⟩
  show Q (.ref h₄.objs.size) _
  rw [hsz]
  have up : ∀ c o, h₄.get? c = some o → (h₄.push { cls := .type "tuple", data := .seq #[x, y] }).get? c = some o := fun c o e => Heap.get?_push_of_some _ e
  refine hQ _ (up _ _ hz₄) (h1₄.at fun o e => up _ o e) (h2₄.at fun o e => up _ o e) ?_ (by rw [Heap.size_push, hsz]) fun c o c1 c2 c3 e => up c o (hk₄ c o c1 c2 c3 e)
  rw [← hsz]
  exact Heap.get?_push_size _ rfl
theorem zip_out_end {z TI TO T i1 i2 l1 l2 : Addr} {f : Bool} {oT : Obj} {k1 k2 : Nat} {xs ys : Array Value} {Q : Fin → Shared → Prop} (hh : A.handled = none) (D : ZipApart z TI TO i1 i2 l1 l2)
    (hz : ZOut s.heap z TI TO T f) (hT : s.heap.get? T = some oT) (hTI : IsPair s.heap TI (.ref i1) (.ref i2))
    (h1 : s.heap.IsListIter i1 l1 k1) (h2 : s.heap.IsListIter i2 l2 k2) (hl1 : s.heap.IsList l1 xs) (hl2 : s.heap.IsList l2 ys) (hend : xs[k1]? = none ∨ ys[k2]? = none)
    (hE : ∀ h' e, (∀ c o, c ≠ z → c ≠ i1 → c ≠ i2 → s.heap.get? c = some o → h'.get? c = some o) → (∃ o, h'.get? e = some o ∧ o.cls = .type "StopIteration") → E (.ref e) { s with heap := h' }) :
    wpAny (model prog w) A (Builtin.«zip.__next__» ⟨[.ref z], []⟩) Q E s := by
  show wpAny _ _ (field (.ref z) 2 >>= _) _ _ _
  refine wpAny_bind (wpAny_field hz rfl (x := .bool false) rfl ?_)
  show wpAny _ _ (field (.ref z) 3 >>= _) _ _ _
  refine wpAny_bind (wpAny_field hz rfl (x := .ref TI) rfl ?_)
  refine wpAny_bind (wpAny_seqItems hTI rfl ?_)
  show wpAny _ _ (Builtin.SmallTypes.ownedTupleIsFree (.ref z) >>= _) _ _ _
  refine wpAny_bind (owned_out hz hT fun h₁ hz₁ hs₁ => ?_)
  simp only [Bool.false_eq_true, if_false]
  refine wpAny_bind ?_
  simp only [List.forIn_toArray, List.forIn_cons, List.forIn_nil]
  refine wpAny_bind (wpAny_bind (wpAny_holding ?_))
  show wpAny _ _ (Builtin.SmallTypes.nextOf (.ref i1) >>= _) _ _ _
  cases hx : xs[k1]? with
  | none =>
    refine wpAny_bind (wpAny_nextOf_list_end hh (h1.extBut hs₁.extBut D.i1z) (hl1.extBut hs₁.extBut D.l1z) hx fun h₂ e hs₂ he => ?_)
    exact hE h₂ e (fun c o c1 c3 _ x => hs₂ _ _ c3 (hs₁.extBut _ _ c1 x)) he
  | some x =>
    have hy : ys[k2]? = none := by rcases hend with h | h; rw [hx] at h; cases h; exact h
    refine wpAny_bind (wpAny_nextOf_list_item (h1.extBut hs₁.extBut D.i1z) (hl1.extBut hs₁.extBut D.l1z) hx fun h₂ h1₂ hs₂ => wpAny_pure (wpAny_pure ?_))
    refine wpAny_bind (wpAny_bind (wpAny_holding ?_))
    show wpAny _ _ (Builtin.SmallTypes.nextOf (.ref i2) >>= _) _ _ _
    refine wpAny_bind (wpAny_nextOf_list_end hh ((h2.extBut hs₁.extBut D.i2z).extBut hs₂.extBut D.i12.symm) ((hl2.extBut hs₁.extBut D.l2z).extBut hs₂.extBut D.l2i1) hy fun h₄ e hs₄ he => ?_)
    exact hE h₄ e (fun c o c1 c3 c4 x => hs₄ _ _ c4 (hs₂.extBut _ _ c3 (hs₁.extBut _ _ c1 x))) he
theorem next_out_item {z TI TO T i1 i2 l1 l2 : Addr} {f : Bool} {oT : Obj} {k1 k2 : Nat} {xs ys : Array Value} {x y : Value} {Q : Option Value → Shared → Prop} (D : ZipApart z TI TO i1 i2 l1 l2)
    (hz : ZOut s.heap z TI TO T f) (hT : s.heap.get? T = some oT) (hTI : IsPair s.heap TI (.ref i1) (.ref i2))
    (h1 : s.heap.IsListIter i1 l1 k1) (h2 : s.heap.IsListIter i2 l2 k2) (hl1 : s.heap.IsList l1 xs) (hl2 : s.heap.IsList l2 ys) (hx : xs[k1]? = some x) (hy : ys[k2]? = some y)
    (hQ : ∀ h', ZOut h' z TI TO T true → h'.IsListIter i1 l1 (k1 + 1) → h'.IsListIter i2 l2 (k2 + 1) → IsPair h' s.heap.objs.size x y → h'.objs.size = s.heap.objs.size + 1 →
      (∀ c o, c ≠ z → c ≠ i1 → c ≠ i2 → s.heap.get? c = some o → h'.get? c = some o) → Q (some (.ref s.heap.objs.size)) { s with heap := h' }) :
    wpAny (model prog w) A (pyNext (.ref z)) Q E s := by
  have hTy : s.TypeIs (.ref z) "zip" := ⟨_, hz, rfl⟩
  unfold pyNext
  exact wpAny_bind (wpAny_attempt (wpAny_callSpecial?_slot (name := Str.ofString "__next__") hTy F.slot_zip_next
    (wpAny_call_entry F.slot_zip_next hTy F.entry_zip_next
      (zip_out_item D hz hT hTI h1 h2 hl1 hl2 hx hy fun h' a1 a3 a4 a5 a6 a7 => wpAny_pure (hQ h' a1 a3 a4 a5 a6 a7)) (F.args_zip_next_1 _))))
theorem next_out_end {z TI TO T i1 i2 l1 l2 : Addr} {f : Bool} {oT : Obj} {k1 k2 : Nat} {xs ys : Array Value} {Q : Option Value → Shared → Prop} (hh : A.handled = none) (D : ZipApart z TI TO i1 i2 l1 l2)
    (hz : ZOut s.heap z TI TO T f) (hT : s.heap.get? T = some oT) (hTI : IsPair s.heap TI (.ref i1) (.ref i2))
    (h1 : s.heap.IsListIter i1 l1 k1) (h2 : s.heap.IsListIter i2 l2 k2) (hl1 : s.heap.IsList l1 xs) (hl2 : s.heap.IsList l2 ys) (hend : xs[k1]? = none ∨ ys[k2]? = none)
    (hQ : ∀ h', (∀ c o, c ≠ z → c ≠ i1 → c ≠ i2 → s.heap.get? c = some o → h'.get? c = some o) → Q none { s with heap := h' }) : wpAny (model prog w) A (pyNext (.ref z)) Q E s := by
  have hTy : s.TypeIs (.ref z) "zip" := ⟨_, hz, rfl⟩
  unfold pyNext
  refine wpAny_bind (wpAny_attempt (wpAny_callSpecial?_slot (name := Str.ofString "__next__") hTy F.slot_zip_next
    (wpAny_call_entry F.slot_zip_next hTy F.entry_zip_next (zip_out_end hh D hz hT hTI h1 h2 hl1 hl2 hend fun h' e hk he => ?_) (F.args_zip_next_1 _))))
  obtain ⟨o, ho, hc⟩ := he
  refine wpAny_bind (wpAny_isInstance (T := "StopIteration") (b := true) ⟨o, ho, hc⟩ isSubtype_stop ?_)
  exact wpAny_pure (hQ _ hk)
end
/-- zip's iterator ahead of the i-th pair -/
structure ZSt (h : Heap) (z TI TO i1 i2 l1 l2 : Addr) (xs ys : Array Value) (i : Nat) (S : Addr) : Prop where
  zip : (IsZip h z TI TO .none ∧ ∃ a b, IsPair h TO a b) ∨ ∃ T f oT, ZOut h z TI TO T f ∧ h.get? T = some oT ∧ T ≠ z ∧ T ≠ i1 ∧ T ≠ i2 ∧ T ≠ S
  ti : IsPair h TI (.ref i1) (.ref i2)
  j1 : h.IsListIter i1 l1 i
  j2 : h.IsListIter i2 l2 i
  x1 : h.IsList l1 xs
  x2 : h.IsList l2 ys
structure ZAp (S z TI TO i1 i2 l1 l2 : Addr) : Prop where
  z : z ≠ S
  ti : TI ≠ S
  to : TO ≠ S
  i1 : i1 ≠ S
  i2 : i2 ≠ S
  l1 : l1 ≠ S
  l2 : l2 ≠ S
theorem ZSt.keep {h h' : Heap} {z TI TO i1 i2 l1 l2 : Addr} {xs ys : Array Value} {i : Nat} {S : Addr} (st : ZSt h z TI TO i1 i2 l1 l2 xs ys i S) (ap : ZAp S z TI TO i1 i2 l1 l2) (k : ∀ b o, b ≠ S → h.get? b = some o → h'.get? b = some o) : ZSt h' z TI TO i1 i2 l1 l2 xs ys i S := by
  refine ⟨?_, k _ _ ap.ti st.ti, st.j1.at fun o e => k _ o ap.i1 e, st.j2.at fun o e => k _ o ap.i2 e, st.x1.at fun o e => k _ o ap.l1 e, st.x2.at fun o e => k _ o ap.l2 e⟩
  rcases st.zip with ⟨hz, a, b, hT⟩ | ⟨T, f, oT, hz, hT, t1, t2, t3, t4⟩
  · exact .inl ⟨k _ _ ap.z hz, a, b, k _ _ ap.to hT⟩
  · exact .inr ⟨T, f, oT, k _ _ ap.z hz, k _ _ t4 hT, t1, t2, t3, t4⟩
section
variable {prog : Program} {w : World} {A : Around} {E : Value → Shared → Prop} {s : Shared}
theorem zl_item {S z TI TO i1 i2 l1 l2 : Addr} {xs ys : Array Value} {i : Nat} {x y : Value} {Q : Option Value → Shared → Prop} (D : ZipApart z TI TO i1 i2 l1 l2) (st : ZSt s.heap z TI TO i1 i2 l1 l2 xs ys i S) (hS : S < s.heap.objs.size) (hx : xs[i]? = some x) (hy : ys[i]? = some y)
    (hQ : ∀ h', ZSt h' z TI TO i1 i2 l1 l2 xs ys (i + 1) S → IsPair h' s.heap.objs.size x y → h'.objs.size = s.heap.objs.size + 1 → (∀ c o, c ≠ z → c ≠ TO → c ≠ i1 → c ≠ i2 → s.heap.get? c = some o → h'.get? c = some o) → Q (some (.ref s.heap.objs.size)) { s with heap := h' }) :
    wpAny (model prog w) A (pyNext (.ref z)) Q E s := by
  have lt : ∀ {c o}, s.heap.get? c = some o → s.heap.objs.size ≠ c := fun e => Nat.ne_of_gt (Heap.lt_size e)
  obtain ⟨zp, hTI, h1, h2, hl1, hl2⟩ := st
  rcases zp with ⟨hz, a, b, hTO⟩ | ⟨T, f, oT, hz, hT, t1, t2, t3, t4⟩
  · refine wpAny_pyNext_zip_item D hz hTI hTO h1 h2 hl1 hl2 hx hy fun h' a1 a2 a3 a4 a5 a6 hk => ?_
    refine hQ h' ⟨.inr ⟨s.heap.objs.size, false, _, a1, a5, lt hz, ?_, ?_, Nat.ne_of_gt hS⟩, hk _ _ D.TIz D.TITO D.TIi1 D.TIi2 hTI, a3, a4, hl1.at fun o e => hk _ o D.l1z D.l1TO D.l1i1 D.l1i2 e, hl2.at fun o e => hk _ o D.l2z D.l2TO D.l2i1 D.l2i2 e⟩ a5 a6 hk
    · obtain ⟨_, e, _⟩ := h1; exact lt e
    · obtain ⟨_, e, _⟩ := h2; exact lt e
  · refine next_out_item D hz hT hTI h1 h2 hl1 hl2 hx hy fun h' a1 a3 a4 a5 a6 hk => ?_
    exact hQ h' ⟨.inr ⟨T, true, oT, a1, hk _ _ t1 t2 t3 hT, t1, t2, t3, t4⟩, hk _ _ D.TIz D.TIi1 D.TIi2 hTI, a3, a4, hl1.at fun o e => hk _ o D.l1z D.l1i1 D.l1i2 e, hl2.at fun o e => hk _ o D.l2z D.l2i1 D.l2i2 e⟩ a5 a6 fun c o c1 _ c3 c4 e => hk c o c1 c3 c4 e
theorem zl_done {S z TI TO i1 i2 l1 l2 : Addr} {xs ys : Array Value} {i : Nat} {Q : Option Value → Shared → Prop} (hh : A.handled = none) (D : ZipApart z TI TO i1 i2 l1 l2) (st : ZSt s.heap z TI TO i1 i2 l1 l2 xs ys i S) (hend : xs[i]? = none ∨ ys[i]? = none)
    (hQ : ∀ h', (∀ c o, c ≠ z → c ≠ TO → c ≠ i1 → c ≠ i2 → s.heap.get? c = some o → h'.get? c = some o) → Q none { s with heap := h' }) :
    wpAny (model prog w) A (pyNext (.ref z)) Q E s := by
  obtain ⟨zp, hTI, h1, h2, hl1, hl2⟩ := st
  rcases zp with ⟨hz, a, b, hTO⟩ | ⟨T, f, oT, hz, hT, t1, t2, t3, t4⟩
  · exact wpAny_pyNext_zip_end hh D hz hTI hTO h1 h2 hl1 hl2 hend hQ
  · exact next_out_end hh D hz hT hTI h1 h2 hl1 hl2 hend fun h' hk => hQ h' fun c o c1 _ c3 c4 e => hk c o c1 c3 c4 e
end
/-- the pairs that were told -/
structure ZG (xs ys : Array Value) (lo : Addr) (h : Heap) (as : List Addr) : Prop where
  rise : as.Pairwise (· < ·)
  above : ∀ a ∈ as, lo < a
  pairs : ∀ (j : Nat) (a : Addr), as[j]? = some a → ∃ x y, xs[j]? = some x ∧ ys[j]? = some y ∧ IsPair h a x y
theorem ZG.there {xs ys : Array Value} {lo : Addr} {h : Heap} {as : List Addr} (g : ZG xs ys lo h as) {a : Addr} (ha : a ∈ as) : a < h.objs.size := by
  obtain ⟨j, hj⟩ := List.mem_iff_getElem?.mp ha
  obtain ⟨_, _, _, _, e⟩ := g.pairs j a hj
  exact Heap.lt_size e
section
variable {prog : Program} {w : World} {A : Around} {s : Shared} {R : Result → Shared → Prop} {xs ys : Array Value} {S z TI TO i1 i2 l1 l2 : Addr}
open PySem.W PySem.Calls PyProof.V
theorem zl_loop (hh : A.handled = none) (D : ZipApart z TI TO i1 i2 l1 l2) (ap : ZAp S z TI TO i1 i2 l1 l2) (lows : z < S ∧ TO < S ∧ i1 < S ∧ i2 < S) (hn : xs.size ≤ sizeLine) (hlen : ys.size = xs.size) (res : Value) {h₁ : Heap}
    (hR : ∀ h' tk acc c as, (∀ b o, b ≠ S → b ≠ z → b ≠ TO → b ≠ i1 → b ≠ i2 → h₁.get? b = some o → h'.get? b = some o) → h'.get? S = some { cls := .type "list", dict := none, data := .seq acc c, slots := #[] } → as.length = xs.size → ZG xs ys S h' as →
      acc.toList = as.map Value.ref → R (.ok (.ret res)) { s with heap := h', toks := tk }) :
    ∀ (k i : Nat) (h : Heap) (tk c : Nat) (acc : Array Value) (as : List Addr), xs.size - i = k → i ≤ xs.size → ZSt h z TI TO i1 i2 l1 l2 xs ys i S → (∀ b o, b ≠ S → b ≠ z → b ≠ TO → b ≠ i1 → b ≠ i2 → h₁.get? b = some o → h.get? b = some o) →
      h.get? S = some { cls := .type "list", dict := none, data := .seq acc c, slots := #[] } → acc.toList = as.map Value.ref → as.length = i → ZG xs ys S h as →
      codeAny (model prog w) A (.builtin "list.extend.loop" ⟨[.ref S, .ref z, res], []⟩) R { s with heap := h, toks := tk } := by
  have gt : ∀ {a : Addr}, S < a → a ≠ z ∧ a ≠ TO ∧ a ≠ i1 ∧ a ≠ i2 := fun {a} h => ⟨Nat.ne_of_gt (Nat.lt_trans lows.1 h), Nat.ne_of_gt (Nat.lt_trans lows.2.1 h), Nat.ne_of_gt (Nat.lt_trans lows.2.2.1 h), Nat.ne_of_gt (Nat.lt_trans lows.2.2.2 h)⟩
  intro k
  induction k with
  | zero =>
    intro i h tk c acc as hk hi hst hkeep hS hacc hal hG
    have hin : i = xs.size := by omega
    refine codeAny_builtin PySem.F.entry_extend_loop ?_
    rw [Around.under_plainId PySem.F.plain_extend_loop _]
    show wpAny _ A.in1 (pyNext (.ref z) >>= _) _ _ _
    refine wpAny_bind (zl_done (s := { s with heap := h, toks := tk }) (A := A.in1) hh D hst (.inl (Array.getElem?_eq_none (by omega))) fun h' he => ?_)
    refine wpAny_pure (hR h' tk acc c as (fun b o h1 h2 h3 h4 h5 e => he b o h2 h3 h4 h5 (hkeep b o h1 h2 h3 h4 h5 e)) (he S _ ap.z.symm ap.to.symm ap.i1.symm ap.i2.symm hS) (by omega) ⟨hG.rise, hG.above, fun j a hj => ?_⟩ hacc)
    obtain ⟨x, y, e1, e2, e3⟩ := hG.pairs j a hj
    obtain ⟨g1, g2, g3, g4⟩ := gt (hG.above a (List.mem_of_getElem? hj))
    exact ⟨x, y, e1, e2, he a _ g1 g2 g3 g4 e3⟩
  | succ k ih =>
    intro i h tk c acc as hk hi hst hkeep hS hacc hal hG
    have hlt : i < xs.size := by omega
    have hsz : acc.size = i := by rw [← Array.length_toList, hacc, List.length_map, hal]
    have hSl : S < h.objs.size := Heap.lt_size hS
    refine codeAny_builtin PySem.F.entry_extend_loop ?_
    rw [Around.under_plainId PySem.F.plain_extend_loop _]
    show wpAny _ A.in1 (pyNext (.ref z) >>= _) _ _ _
    refine wpAny_bind (zl_item (s := { s with heap := h, toks := tk }) (S := S) D hst hSl (Array.getElem?_eq_getElem hlt) (Array.getElem?_eq_getElem (by omega : i < ys.size)) fun h' hst' ht hz hkp => ?_)
    dsimp only at ht hz hkp ⊢
    have hS' := hkp S _ ap.z.symm ap.to.symm ap.i1.symm ap.i2.symm hS
    have up : ∀ b o, b ≠ S → h'.get? b = some o → (h'.update S (Obj.mapSeq (·.push (Value.ref h.objs.size)))).get? b = some o := fun b o hb e => (Heap.get?_update_other _ _ (Ne.symm hb)).trans e
    show wpAny _ A.in1 (updateSeq S (·.push (Value.ref h.objs.size)) >>= _) _ _ _
    refine wpAny_bind ?_
    refine wpAny_updateSeq hS' rfl (wpAny_pure ⟨plainId_quiet PySem.F.plain_extend_loop _, ih (i + 1) _ tk _ (acc.push (Value.ref h.objs.size)) (as ++ [h.objs.size]) (by omega) hlt (hst'.keep ap up)
      (fun b o h1 h2 h3 h4 h5 e => up b o h1 (hkp b o h2 h3 h4 h5 (hkeep b o h1 h2 h3 h4 h5 e))) (Heap.get?_update_self _ hS' rfl) (by rw [Array.toList_push, hacc, List.map_append]; rfl) (by rw [List.length_append, hal]; rfl) ⟨?_, ?_, ?_⟩⟩) (by rw [hsz]; omega) (by show (acc.push (Value.ref h.objs.size)).size ≤ sizeLine + 1; rw [Array.size_push, hsz]; omega)
    · refine List.pairwise_append.mpr ⟨hG.rise, List.pairwise_singleton _ _, fun a ha b hb => ?_⟩
      rw [List.mem_singleton.mp hb]
      exact hG.there ha
    · intro a ha
      rcases List.mem_append.mp ha with ha | ha
      · exact hG.above a ha
      · rw [List.mem_singleton.mp ha]; exact hSl
    · intro j b hj
      rcases Nat.lt_trichotomy j as.length with h1 | h1 | h1
      · rw [List.getElem?_append_left h1] at hj
        obtain ⟨x, y, e1, e2, e3⟩ := hG.pairs j b hj
        have hb := hG.above b (List.mem_of_getElem? hj)
        obtain ⟨g1, g2, g3, g4⟩ := gt hb
        exact ⟨x, y, e1, e2, up b _ (Nat.ne_of_gt hb) (hkp b _ g1 g2 g3 g4 e3)⟩
      · subst h1
        have hb : h.objs.size = b := by simpa using hj
        subst hb
        subst hal
        exact ⟨_, _, Array.getElem?_eq_getElem hlt, Array.getElem?_eq_getElem (by omega), up _ _ (Nat.ne_of_gt hSl) ht⟩
      · have hnone : (as ++ [h.objs.size])[j]? = none := List.getElem?_eq_none (by rw [List.length_append, List.length_singleton]; omega)
        rw [hnone] at hj; cases hj
end
theorem zip_len : typeLookup (.type "zip") "__len__" = pure none := by rw [typeLookup_type, builtinLookup_eq_fast]; kernel_rfl
theorem zip_hint : typeLookup (.type "zip") "__length_hint__" = pure none := by rw [typeLookup_type, builtinLookup_eq_fast]; kernel_rfl
section
variable {prog : Program} {w : World} {A : Around} {E : Value → Shared → Prop} {s : Shared} {r : Addr}
theorem zl_hint (hT : s.TypeIs (.ref r) "zip") {Q : Bool → Shared → Prop} (h : Q true s) : wpAny (model prog w) A (Builtin.List.listLengthHint (.ref r)) Q E s := by
  unfold Builtin.List.listLengthHint
  refine wpAny_bind (wpAny_specialOf hT zip_len ?_)
  show wpAny _ _ (specialOf (.ref r) "__length_hint__" >>= _) _ _ _
  refine wpAny_bind (wpAny_specialOf hT zip_hint ?_)
  exact wpAny_pure h
end
section
variable {prog : Program} {w : World} {A : Around} {E : Value → Shared → Prop} {s : Shared} {xs ys : Array Value} {z TI TO i1 i2 l1 l2 : Addr}
open PySem.W PySem.Calls PyProof.V
theorem zl_extend {R : Result → Shared → Prop} (hh : A.handled = none) (D : ZipApart z TI TO i1 i2 l1 l2) (S : Addr) (ap : ZAp S z TI TO i1 i2 l1 l2) (lows : z < S ∧ TO < S ∧ i1 < S ∧ i2 < S) (hz : IsZip s.heap z TI TO .none) (hTO : ∃ a b, IsPair s.heap TO a b) (hTI : IsPair s.heap TI (.ref i1) (.ref i2))
    (h1 : s.heap.IsListIter i1 l1 0) (h2 : s.heap.IsListIter i2 l2 0) (hl1 : s.heap.IsList l1 xs) (hl2 : s.heap.IsList l2 ys) (hlen : ys.size = xs.size) (res : Value) (c₀ : Nat) (hS : s.heap.get? S = some { cls := .type "list", data := .seq #[] c₀ })
    (hR : ∀ h' tk acc c as, (∀ b o, b ≠ S → b ≠ z → b ≠ TO → b ≠ i1 → b ≠ i2 → s.heap.get? b = some o → h'.get? b = some o) → h'.get? S = some { cls := .type "list", dict := none, data := .seq acc c, slots := #[] } → as.length = xs.size → ZG xs ys S h' as →
      acc.toList = as.map Value.ref → R (.ok (.ret res)) { s with heap := h', toks := tk }) (hn : xs.size ≤ sizeLine) :
    wpAny (model prog w) A.in1 (Builtin.List.listExtendWith (.ref S) (.ref z) res)
      (fun fin s' => match fin with | .done f => R (.ok f) s' | .again c' => c'.quiet = true ∧ codeAny (model prog w) A c' R s') (fun e s' => R (.error e) s') s := by
  have st : ZSt s.heap z TI TO i1 i2 l1 l2 xs ys 0 S := ⟨.inl ⟨hz, hTO⟩, hTI, h1, h2, hl1, hl2⟩
  have hTy : s.TypeIs (.ref z) "zip" := ⟨_, hz, rfl⟩
  have key : ∀ (h : Heap) (c₁ tk : Nat), (∀ b o, b ≠ S → s.heap.get? b = some o → h.get? b = some o) →
      h.get? S = some { cls := .type "list", data := .seq #[] c₁ } → codeAny (model prog w) A (.builtin "list.extend.loop" ⟨[.ref S, .ref z, res], []⟩) R { s with heap := h, toks := tk } := by
    intro h c₁ tk hk hS₁
    refine zl_loop (s := s) (h₁ := s.heap) hh D ap lows hn hlen res hR
      xs.size 0 h tk c₁ #[] [] (Nat.sub_zero _) (Nat.zero_le _) (st.keep ap hk) (fun b o hb _ _ _ _ e => hk b o hb e) hS₁ rfl rfl
      ⟨List.Pairwise.nil, (fun _ ha => nomatch ha), (fun j a hj => by simp at hj)⟩
  unfold Builtin.List.listExtendWith
  refine wpAny_bind (wpAny_typeOf (T := "zip") hTy ?_)
  have e1 : Builtin.List.listSameRef (.ref S) (.ref z) = false := by simp [Builtin.List.listSameRef, ap.z.symm]
  have e2 : (Value.type "zip" == Value.type "list") = false := by decide
  have e3 : (Value.type "zip" == Value.type "tuple") = false := by decide
  simp only [e1, e2, e3, Bool.or_false, Bool.false_eq_true, if_false]
  refine wpAny_bind (wpAny_pyIter_zip hz ?_)
  refine wpAny_bind (wpAny_holding (zl_hint hTy ?_))
  refine wpAny_ite_split (fun _ => ?_) (fun hab => absurd (by rfl) hab)
  refine wpAny_bind (wpAny_rule ?_)
  refine wpAny_bind ?_
  show wpAny _ _ (updateSeq S (·.push .none) >>= fun _ => updateSeq S (·.pop)) _ _ _
  refine wpAny_bind (wpAny_updateSeq hS rfl ?_)
  have hS₂ := Heap.get?_update_self (Obj.mapSeq (·.push Value.none)) hS rfl
  refine wpAny_updateSeq (hz := by seq_fits) hS₂ rfl ?_
  have hS₃ := Heap.get?_update_self (Obj.mapSeq (·.pop)) hS₂ rfl
  refine wpAny_pure ⟨plainId_quiet PySem.F.plain_extend_loop _, key _ _ _ (fun b o hb e => ?_) hS₃⟩
  exact (Heap.get?_update_other _ _ (Ne.symm hb)).trans ((Heap.get?_update_other _ _ (Ne.symm hb)).trans e)
theorem zl_init {R : Result → Shared → Prop} (hh : A.handled = none) (D : ZipApart z TI TO i1 i2 l1 l2) (S : Addr) (ap : ZAp S z TI TO i1 i2 l1 l2) (lows : z < S ∧ TO < S ∧ i1 < S ∧ i2 < S) (hz : IsZip s.heap z TI TO .none) (hTO : ∃ a b, IsPair s.heap TO a b) (hTI : IsPair s.heap TI (.ref i1) (.ref i2))
    (h1 : s.heap.IsListIter i1 l1 0) (h2 : s.heap.IsListIter i2 l2 0) (hl1 : s.heap.IsList l1 xs) (hl2 : s.heap.IsList l2 ys) (hlen : ys.size = xs.size) (hS : s.heap.get? S = some { cls := .type "list", data := .seq #[] })
    (hR : ∀ h' tk acc c as, (∀ b o, b ≠ S → b ≠ z → b ≠ TO → b ≠ i1 → b ≠ i2 → s.heap.get? b = some o → h'.get? b = some o) → h'.get? S = some { cls := .type "list", dict := none, data := .seq acc c, slots := #[] } → as.length = xs.size → ZG xs ys S h' as →
      acc.toList = as.map Value.ref → R (.ok (.ret .none)) { s with heap := h', toks := tk }) (hn : xs.size ≤ sizeLine) :
    wpAny (model prog w) A.in1 (Builtin.«list.__init__» ⟨[.ref S, .ref z], []⟩)
      (fun fin s' => match fin with | .done f => R (.ok f) s' | .again c' => c'.quiet = true ∧ codeAny (model prog w) A c' R s') (fun e s' => R (.error e) s') s := by
  show wpAny _ _ (do let old ← Builtin.List.listItems (.ref S); Builtin.List.listUpdate (.ref S) (fun _ => #[]); letGo old.toList.reverse; Builtin.List.listExtendWith (.ref S) (.ref z) .none) _ _ s
  refine wpAny_bind ?_
  unfold Builtin.List.listItems
  refine wpAny_bind (wpAny_seqItems hS rfl (wpAny_pure ?_))
  show wpAny _ _ (updateSeq S (fun _ => #[]) >>= fun _ => letGo (#[] : Array Value).toList.reverse >>= fun _ => Builtin.List.listExtendWith (.ref S) (.ref z) .none) _ _ s
  refine wpAny_bind (wpAny_updateSeq hS rfl ?_)
  have hS₂ := Heap.get?_update_self (Obj.mapSeq (fun _ => (#[] : Array Value))) hS rfl
  have oth : ∀ b o, b ≠ S → s.heap.get? b = some o → (s.heap.update S (Obj.mapSeq (fun _ => (#[] : Array Value)))).get? b = some o :=
    fun b o hb e => (Heap.get?_update_other _ _ (Ne.symm hb)).trans e
  refine wpAny_bind (wpAny_letGo ?_)
  obtain ⟨a, b, hTO⟩ := hTO
  refine zl_extend hh D S ap lows (oth _ _ ap.z hz) ⟨a, b, oth _ _ ap.to hTO⟩ (oth _ _ ap.ti hTI) (h1.at fun o e => oth _ o ap.i1 e) (h2.at fun o e => oth _ o ap.i2 e) (hl1.at fun o e => oth _ o ap.l1 e) (hl2.at fun o e => oth _ o ap.l2 e) hlen .none _ hS₂ (fun h' tk acc c as hk hS' hl hG hacc => ?_) hn
  exact hR h' tk acc c as (fun b o hb h2 h3 h4 h5 e => hk b o hb h2 h3 h4 h5 (oth b o hb e)) hS' hl hG hacc
theorem zl_call {Q : Value → Shared → Prop} (hh : A.handled = none) (D : ZipApart z TI TO i1 i2 l1 l2) (hz : IsZip s.heap z TI TO .none) (hTO : ∃ a b, IsPair s.heap TO a b) (hTI : IsPair s.heap TI (.ref i1) (.ref i2))
    (h1 : s.heap.IsListIter i1 l1 0) (h2 : s.heap.IsListIter i2 l2 0) (hl1 : s.heap.IsList l1 xs) (hl2 : s.heap.IsList l2 ys) (hlen : ys.size = xs.size) (hn : xs.size ≤ sizeLine)
    (hQ : ∀ h' tk acc c as, (∀ b o, b ≠ z → b ≠ TO → b ≠ i1 → b ≠ i2 → s.heap.get? b = some o → h'.get? b = some o) → h'.get? s.heap.objs.size = some { cls := .type "list", dict := none, data := .seq acc c, slots := #[] } → as.length = xs.size → ZG xs ys s.heap.objs.size h' as →
      acc.toList = as.map Value.ref → Q (.ref s.heap.objs.size) { s with heap := h', toks := tk }) :
    wpAny (model prog w) A (call (.type "list") [.ref z]) Q E s := by
  refine callType_codes (Q₁ := fun obj s₁ => obj = .ref s.heap.objs.size ∧ s₁ = { s with heap := s.heap.push { cls := .type "list", data := .seq #[] } }) PySem.F.called_list (PySem.F.typeCall_list_1 _) PySem.F.entry_list_init
    (code_list_new _ ⟨rfl, rfl⟩) fun obj s₁ h₁ => ?_
  obtain ⟨rfl, rfl⟩ := h₁
  have hS : (s.heap.push { cls := .type "list", data := .seq #[] }).get? s.heap.objs.size = some { cls := .type "list", data := .seq #[] } := Heap.get?_push_size _ rfl
  obtain ⟨a, b, hTO⟩ := hTO
  have zl : z < s.heap.objs.size := Heap.lt_size hz
  have tl : TO < s.heap.objs.size := Heap.lt_size hTO
  have til : TI < s.heap.objs.size := Heap.lt_size hTI
  have il1 : i1 < s.heap.objs.size := let ⟨_, e, _⟩ := h1; Heap.lt_size e
  have il2 : i2 < s.heap.objs.size := let ⟨_, e, _⟩ := h2; Heap.lt_size e
  have ll1 : l1 < s.heap.objs.size := let ⟨_, e, _⟩ := hl1; Heap.lt_size e
  have ll2 : l2 < s.heap.objs.size := let ⟨_, e, _⟩ := hl2; Heap.lt_size e
  have up : ∀ c o, s.heap.get? c = some o → (s.heap.push { cls := .type "list", data := .seq #[] }).get? c = some o := fun c o e => Heap.get?_push_of_some _ e
  refine ⟨⟨_, hS, rfl⟩, PySem.F.args_list_init_2 _ _, zl_init (A := A.in1) hh D _ ⟨Nat.ne_of_lt zl, Nat.ne_of_lt til, Nat.ne_of_lt tl, Nat.ne_of_lt il1, Nat.ne_of_lt il2, Nat.ne_of_lt ll1, Nat.ne_of_lt ll2⟩ ⟨zl, tl, il1, il2⟩ (up _ _ hz) ⟨a, b, up _ _ hTO⟩ (up _ _ hTI) (h1.at fun o e => up _ o e) (h2.at fun o e => up _ o e) (hl1.at fun o e => up _ o e) (hl2.at fun o e => up _ o e) hlen hS (fun h' tk acc c as hk hS' hl hG hacc => ?_) hn⟩
  exact ⟨rfl, hQ h' tk acc c as (fun b o g1 g2 g3 g4 e => hk b o (Nat.ne_of_lt (Heap.lt_size e)) g1 g2 g3 g4 (up _ _ e)) hS' hl hG hacc⟩
end
end Rf
namespace Rf
open PySem L2 PySem.Spec PyProof.Rows
/-! ### list(zip(xs, ys)), lists of one length -/
def putP : Hp → List Addr → List (V × V) → Hp
  | H, a :: as, p :: kvs => putP (L2.upd H a (.tup [p.1, p.2])) as kvs
  | H, _, _ => H
theorem putP_off {b : Addr} : ∀ (as : List Addr) (kvs : List (V × V)) (H : Hp), b ∉ as → putP H as kvs b = H b
  | [], _, _, _ => rfl
  | _ :: _, [], _, _ => rfl
  | a :: as, p :: kvs, H, h => by
    show putP (L2.upd H a (.tup [p.1, p.2])) as kvs b = H b
    rw [putP_off as kvs _ (fun z => h (List.mem_cons_of_mem _ z)), upd_ne (fun z => h (by rw [z]; exact List.mem_cons_self))]
theorem putP_at : ∀ (as : List Addr) (kvs : List (V × V)) (H : Hp), as.length = kvs.length → as.Nodup → Paired (fun (t : Addr) (p : V × V) => putP H as kvs t = some (.tup [p.1, p.2])) as kvs
  | [], [], _, _, _ => .nil
  | [], _ :: _, _, h, _ => by cases h
  | _ :: _, [], _, h, _ => by cases h
  | a :: as, p :: kvs, H, h, hn => by
    have hn' := List.nodup_cons.mp hn
    have ih := putP_at as kvs (L2.upd H a (.tup [p.1, p.2])) (Nat.succ.inj h) hn'.2
    refine .cons ?_ ih
    show putP (L2.upd H a (.tup [p.1, p.2])) as kvs a = some (.tup [p.1, p.2])
    rw [putP_off as kvs _ hn'.1, upd_same]
theorem zip_get {α β : Type} : ∀ {l : List α} {m : List β} {i : Nat} {q : α × β}, (l.zip m)[i]? = some q → l[i]? = some q.1 ∧ m[i]? = some q.2
  | [], _, _, _, h => by simp at h
  | _ :: _, [], _, _, h => by simp at h
  | _ :: _, _ :: _, 0, _, h => by
    cases h
    exact ⟨rfl, rfl⟩
  | _ :: _, _ :: _, i + 1, _, h => zip_get (i := i) h
theorem zip_laid {X : Cx} {pins : List (Addr × Obj)} {σ : L2.St} {H : Hp} {s : Shared} {h' : Heap} {tk : Nat} {xs ys : List V} {its its2 : List Value} {acc : Array Value} {c : Nat} {as : List Addr} {lo : Addr} (I : L2.Inv X pins σ H s) (hlo : s.heap.objs.size ≤ lo) (hz : xs.length ≤ sizeLine) (rx : Vals xs its) (ry : Vals ys its2) (hlen : ys.length = xs.length)
    (hk : ∀ b o, s.heap.get? b = some o → h'.get? b = some o) (hS : h'.get? lo = some { cls := .type "list", dict := none, data := .seq acc c, slots := #[] }) (hl : as.length = xs.length) (hG : ZG its.toArray its2.toArray lo h' as) (hacc : acc.toList = as.map Value.ref) :
    ∃ H' : Hp, (∀ b o, H b = some o → H' b = some o) ∧ H lo = none ∧ (∀ t ∈ as, H t = none) ∧ lo ∉ as ∧ H' lo = some (.lst (as.map V.ref)) ∧ Paired (fun (t : Addr) (q : V × V) => H' t = some (.tup [q.1, q.2])) as (xs.zip ys) ∧ L2.Inv X pins σ H' { s with heap := h', toks := tk } := by
  have hSn : lo ∉ as := fun z => Nat.lt_irrefl _ (hG.above _ z)
  have nd : as.Nodup := List.Pairwise.imp (fun {a b} (h : a < b) => Nat.ne_of_lt h) hG.rise
  have above : ∀ t ∈ as, s.heap.objs.size ≤ t := fun t ht => Nat.le_of_lt (Nat.lt_of_le_of_lt hlo (hG.above t ht))
  have new : ∀ t ∈ as, H t = none := fun t ht => I.hok.fresh (above t ht)
  have newS : H lo = none := I.hok.fresh hlo
  have zl : (xs.zip ys).length = xs.length := by rw [List.length_zip, hlen, Nat.min_self]
  have atP := putP_at as (xs.zip ys) (L2.upd H lo (.lst (as.map V.ref))) (by omega) nd
  have off : ∀ b, b ∉ as → b ≠ lo → putP (L2.upd H lo (.lst (as.map V.ref))) as (xs.zip ys) b = H b := fun b h1 h2 => by rw [putP_off as _ _ h1, upd_ne h2]
  have low : ∀ b o, s.heap.get? b = some o → b ∉ as ∧ b ≠ lo := fun b o e => ⟨fun z => absurd (Heap.lt_size e) (Nat.not_lt.mpr (above b z)), Nat.ne_of_lt (Nat.lt_of_lt_of_le (Heap.lt_size e) hlo)⟩
  have kp : ∀ b u, H b = some u → (putP (L2.upd H lo (.lst (as.map V.ref))) as (xs.zip ys)) b = some u := fun b u e => by
    rw [off b (fun z => by rw [new b z] at e; cases e) (fun z => by rw [z, newS] at e; cases e)]
    exact e
  have eS : putP (L2.upd H lo (.lst (as.map V.ref))) as (xs.zip ys) lo = some (.lst (as.map V.ref)) := by rw [putP_off as _ _ hSn, upd_same]
  refine ⟨putP (L2.upd H lo (.lst (as.map V.ref))) as (xs.zip ys), kp, newS, new, hSn, eS, atP, ?_⟩
  refine I.call' (ch := []) rfl ⟨fun b o q _ _ _ => hk b o q, fun b o q _ _ _ => ⟨o.slots, hk b o q⟩, fun b o q n _ => ?_, fun b o q _ => ⟨o, hk b o q⟩, fun b xs q => kp b _ q, fun b o u q => kp b _ q, fun b ps q => ⟨#[], by rw [kp b _ q]; simp⟩⟩ (fun b u q => ?_) I.bare fun b z => by simp at z
  · obtain ⟨z1, z2⟩ := low b o q
    rw [off b z1 z2]
    exact n
  · by_cases hb : b ∈ as
    · obtain ⟨j, pk, e1, e2, e3⟩ := LiI.paired_ix atP hb
      rw [e3] at q
      cases q
      obtain ⟨x, y, f1, f2, f3⟩ := hG.pairs j b e1
      obtain ⟨ex, ey⟩ := zip_get e2
      obtain ⟨v1, g1, r1⟩ := LiI.paired_get rx ex
      obtain ⟨v2, g2, r2⟩ := LiI.paired_get ry ey
      have f1' : its[j]? = some x := by simpa using f1
      have f2' : its2[j]? = some y := by simpa using f2
      rw [f1'] at g1
      rw [f2'] at g2
      cases g1
      cases g2
      exact ⟨by show 2 ≤ sizeLine; decide, [x, y], .cons r1 (.cons r2 .nil), ⟨_, f3, rfl, _, rfl⟩⟩
    · by_cases hb2 : b = lo
      · rw [hb2] at q ⊢
        rw [eS] at q
        cases q
        refine ⟨by rw [List.length_map]; omega, acc.toList, c, by rw [hacc]; exact LiI.vals_refs as, ?_⟩
        rw [Array.toArray_toList]
        exact hS
      · rw [off b hb hb2] at q
        exact (I.hok b u q).stay (fun d v _ y => hk d v y) (fun d y => kp d _ y) fun d xs y => kp d _ y
def tLZip (K : PySem.W.Frag) (ta : TA) : TE := fun σ H Q => ta σ H fun vs H1 => ∃ a b xs ys, vs = [.ref a, .ref b] ∧ SqL K H1 a xs ∧ SqL K H1 b ys ∧ ys.length = xs.length ∧
  ∀ (H' : Hp) (p : Addr) (ts : List Addr), (∀ b o, H1 b = some o → H' b = some o) → H1 p = none → (∀ t ∈ ts, H1 t = none) → p ∉ ts → H' p = some (.lst (ts.map V.ref)) → Paired (fun (t : Addr) (q : V × V) => H' t = some (.tup [q.1, q.2])) ts (xs.zip ys) → Q (.ref p) H'
theorem pe_listZip {X : Cx} {e e2 : Expr} {ta : TA} {p p2 pz pos : Pos} (hc : X.calm = true) (hgl : Gl X "list") (hml : X.mg "list" = none) (hvl : bootBuiltins "list" = some (.type "list")) (hg : Gl X "zip") (hm : X.mg "zip" = none) (ha : PA X [e, e2] ta)
    (hs : starEach [e, e2] X.env = (false, eval e X.env) :: starEach [e2] X.env := by rfl) (hpl : (backTo pz (starEach [e2] X.env)).any (·.1) = false := by rfl)
    (hs0 : starEach [.Call (.Name "zip" p2) [e, e2] [] pz] X.env = (false, eval (.Call (.Name "zip" p2) [e, e2] [] pz) X.env) :: starEach [] X.env := by rfl) :
    PE X (.Call (.Name "list" p) [.Call (.Name "zip" p2) [e, e2] [] pz] [] pos) (tLZip X.K ta) := by
  refine ⟨fun pins s σ H Q I hq => ?_⟩
  refine wpAny_Call_Name_kw (ld_blt I hgl hml hvl ?_)
  refine PyProof.Rows.callWith_type1 ?_ hs0 rfl
  rw [hs0]
  show wpAny _ _ (spliced ((false, eval (.Call (.Name "zip" p2) [e, e2] [] pz) X.env) :: backTo pos (starEach [] X.env))) _ _ s
  refine Calls.spliced_cons ?_
  refine Call_ (ld_blt I hg hm PyProof.Rows.boot_zip (PyProof.Rows.callWith_type1 (thn (ha.run pz pins s σ H _ I hq) fun us s1 ⟨vs, H1, I1, r1, q1⟩ => ?_) hs hpl))
  obtain ⟨a, b, xs, ys, ex, hqx, hqy, hlen, q⟩ := q1
  subst ex
  cases r1 with
  | cons r rr =>
    cases rr with
    | cons r' rr =>
      cases rr
      cases r
      cases r'
      obtain ⟨its, rv, p1, hz1⟩ := I1.list hqx
      obtain ⟨its2, rv2, p2', _⟩ := I1.list hqy
      have la : a < s1.heap.objs.size := p1.lt
      have lb : b < s1.heap.objs.size := p2'.lt
      refine call_zip_2 p1.isList p2'.isList fun h' hz hTI hTO h1 h2 hsz hk => ?_
      refine Calls.spliced_nil ?_
      have l1 := rv.length
      have l2 := rv2.length
      refine zl_call (s := { s1 with heap := h' }) (xs := its.toArray) (ys := its2.toArray) (I1.ok.hd hc) (PySem.W.ktu_apart s1.heap.objs.size a b la lb) hz ⟨_, _, hTO⟩ hTI h1 h2 (p1.isList.at fun o e => hk _ _ e) (p2'.isList.at fun o e => hk _ _ e) (by rw [List.size_toArray, List.size_toArray]; omega) (by rw [List.size_toArray]; omega) fun h2' tk acc c as hk2 hS hl hG hacc => ?_
      have hkk : ∀ b o, s1.heap.get? b = some o → h2'.get? b = some o := fun b o e => by
        have hb := Heap.lt_size e
        exact hk2 b o (fun z => absurd hb (by rw [z]; exact Nat.not_lt.mpr (Nat.le_add_right _ _))) (fun z => absurd hb (by rw [z]; exact Nat.not_lt.mpr (Nat.le_add_right _ _))) (fun z => absurd hb (by rw [z]; exact Nat.lt_irrefl _)) (fun z => absurd hb (by rw [z]; exact Nat.not_lt.mpr (Nat.le_add_right _ _))) (hk _ _ e)
      obtain ⟨H', k1, k2, k3, k4, k5, k6, J⟩ := zip_laid (tk := tk) I1 (by show s1.heap.objs.size ≤ h'.objs.size; omega) hz1 rv rv2 hlen hkk hS (by rw [List.size_toArray] at hl; omega) hG hacc
      exact ⟨.ref _, H', J, rfl, q H' _ as k1 k2 k3 k4 k5 k6⟩
end Rf
/-! ### sorted(d), d a dict whose keys are pairs of ints -/
namespace Rf
open PySem L2 PySem.Spec PyProof.Rows
def pairK (k : Int × Int) : List Key := [Sum.inl k.1, Sum.inl k.2]
def isPA (H : Hp) (b : Addr) (y : Int × Int) : Prop := H b = some (.tup [.int y.1, .int y.2])
def rSortedDT : List V → Hp → VK → Prop := fun xs H Q => ∃ (a : Addr) (kvs : List (List Key × V)) (ks : List (Int × Int)), xs = [V.ref a] ∧ Rd H a (.dT kvs) ∧ kvs.map (·.1) = ks.map pairK ∧
  ∀ (ys : List (Int × Int)) (bs : List Addr) (p : Addr), ys.Perm ks → ys.Pairwise (fun x y => SrtO.lexB y x = false) → H p = none → Paired (isPA H) bs ys → Q (.ref p) (L2.upd H p (.lst (bs.map V.ref)))
/-- the two ints of the tuple that stands at a place -/
def pairAt (H : Hp) : Value → Int × Int
  | .ref t => match H t with
    | some (.tup [.int i, .int j]) => (i, j)
    | _ => (0, 0)
  | _ => (0, 0)
theorem pairAt_eq {H : Hp} {t : Addr} {y : Int × Int} (h : isPA H t y) : pairAt H (.ref t) = y := by
  show (match H t with
    | some (.tup [.int i, .int j]) => (i, j)
    | _ => (0, 0)) = y
  rw [show H t = some (.tup [.int y.1, .int y.2]) from h]
theorem keys_pairs {H : Hp} : ∀ {kvs : List (List Key × V)} {ks : List (Int × Int)} {bs : List Addr}, kvs.map (·.1) = ks.map pairK → IsKeys H kvs bs → Paired (isPA H) bs ks
  | [], [], _, _, h => by
    cases h
    exact .nil
  | [], _ :: _, _, h, _ => by cases h
  | _ :: _, [], _, h, _ => by cases h
  | e :: kvs, k :: ks, _, h, p => by
    rw [List.map_cons, List.map_cons] at h
    obtain ⟨h1, h2⟩ := List.cons.inj h
    cases p with
    | cons r t =>
      refine .cons ?_ (keys_pairs h2 t)
      have r : H _ = some (.tup (e.1.map kV)) := r
      rw [h1] at r
      exact r
theorem paired_map2 {H : Hp} : ∀ {bs : List Addr} {ks : List (Int × Int)}, Paired (isPA H) bs ks → (bs.map Value.ref).map (pairAt H) = ks
  | _, _, .nil => rfl
  | _, _, .cons r t => by
    rw [List.map_cons, List.map_cons, pairAt_eq r, paired_map2 t]
theorem back_pairs {H : Hp} {vs : List Value} : ∀ {out : List Value}, (∀ v ∈ out, ∃ t y, v = Value.ref t ∧ isPA H t y) → ∃ bs : List Addr, out = bs.map Value.ref ∧ Paired (isPA H) bs (out.map (pairAt H))
  | [], _ => ⟨[], rfl, .nil⟩
  | v :: out, h => by
    obtain ⟨t, y, e, hy⟩ := h v (List.mem_cons_self ..)
    obtain ⟨bs, e2, p⟩ := back_pairs (vs := vs) (out := out) fun u hu => h u (List.mem_cons_of_mem _ hu)
    subst e
    refine ⟨t :: bs, by rw [e2]; rfl, ?_⟩
    rw [List.map_cons]
    exact .cons (by rw [pairAt_eq hy]; exact hy) p
theorem isPair_of {X : Cx} {pins : List (Addr × Obj)} {σ : L2.St} {H : Hp} {s : Shared} (I : L2.Inv X pins σ H s) {t : Addr} {y : Int × Int} (h : isPA H t y) : Srt.IsPair s.heap (.ref t) y.1 y.2 := by
  obtain ⟨_, its2, r2, o, ho, hc, n, hd⟩ := I.hok _ _ h
  obtain ⟨u1, u2, rfl, ri, rj⟩ := vals2 r2
  obtain ⟨t1, rfl⟩ := ri
  obtain ⟨t2, rfl⟩ := rj
  exact ⟨t, o, t1, t2, n, rfl, ho, hc, hd⟩
theorem call_sortedDT {X : Cx} (hc : X.calm = true) : CallR X (.builtin "sorted") rSortedDT := by
  intro pins s σ H xs us Q I r h
  obtain ⟨d, kvs, ks0, rfl, hd, hkeys, q⟩ := h
  obtain ⟨u, rfl, rx⟩ := r.one
  cases rx
  obtain ⟨z, hs, ks, pr, o, es, ep, ho, hx, hdt, he, hn⟩ := (show ObjOk X.prog X.w H s.heap d (.dT kvs) from hd.ok I.hok)
  have l1 : es.size = ks.length := size_of_entries he
  have l2 : kvs.length = ks.length := Paired.length pr
  refine Calls.call_function_entry PyProof.Rows.kind_sorted PyProof.Rows.plain_sorted PyProof.Rows.entry_sorted (PyProof.Rows.args_sorted1 _) ?_
  unfold Builtin.«sorted»
  refine wpAny_bind (m := checkCount "sorted" 1 1 _) (wpAny_pure ?_)
  refine wpAny_bind (PySem.W.kdu_collect (A := X.A.in1) (kdl_raw hs hx hdt) (I.ok.hd hc) ho (by omega) fun h' tk acc' kp it => ?_)
  have ea : acc'.toList = ks.map fun x => Value.ref x.2.1 := by
    have hl : acc'.toList.length = ks.length := by rw [Array.length_toList, it.1]; exact l1
    apply List.ext_getElem?
    intro j
    rw [List.getElem?_map]
    cases hj : acc'.toList[j]? with
    | none =>
      have h1 := List.getElem?_eq_none_iff.mp hj
      rw [List.getElem?_eq_none (by omega)]
      all_goals rfl
    | some v =>
      obtain ⟨en, hen, hv⟩ := it.2 j v (by rw [← Array.getElem?_toList]; exact hj)
      have qe := entry_at he j
      rw [hen] at qe
      cases hb : ks[j]? with
      | none =>
        rw [hb] at qe
        exact nomatch (show some en = none from qe)
      | some b =>
        rw [hb] at qe
        have e2 : en = entryOfKey (tupleKind (mixKind X.prog X.w)) b := Option.some.inj qe
        rw [hv, e2]
        all_goals rfl
  have eb : acc'.toList = (ks.map fun x => x.2.1).map Value.ref := by rw [ea, List.map_map]; all_goals rfl
  have ik := keys_pairs hkeys (isKeys_of pr)
  generalize (ks.map fun x => x.2.1) = bs0 at eb ik
  have lb : bs0.length = ks.length := by
    have := congrArg List.length ea
    rw [eb, List.length_map, List.length_map] at this
    exact this
  have hal : acc'.toList.length = ks.length := by rw [eb, List.length_map, lb]
  have I1 : L2.Inv X pins σ H { s with heap := h', toks := tk } := I.kept kp
  refine wpAny_bind (wpAny_newList ?_ (by rw [hal]; omega))
  have hoL : (h'.push (seqObj "list" acc'.toList.toArray 0)).get? h'.objs.size = some (seqObj "list" acc'.toList.toArray 0) := Heap.get?_push_size _ rfl
  show wpAny _ _ _ _ _ { s with heap := h'.push (seqObj "list" acc'.toList.toArray 0), toks := tk }
  have hip : ∀ v ∈ acc'.toList, ∃ t y, v = Value.ref t ∧ isPA H t y := fun v hv => by
    rw [eb] at hv
    obtain ⟨t, ht, rfl⟩ := List.mem_map.mp hv
    obtain ⟨j, hj⟩ := List.getElem?_of_mem ht
    obtain ⟨y, _, hy⟩ := paired_get ik hj
    exact ⟨t, y, rfl, hy⟩
  refine wpAny_bind (wpAny_holding (wpAny_call_entry PyProof.Rows.slot_list_sort ⟨_, hoL, rfl⟩ PyProof.Rows.entry_list_sort
    (SrtO.list_sort_ord (s := { s with heap := h'.push (seqObj "list" acc'.toList.toArray 0), toks := tk }) (SrtO.swo_lex (pairAt H)) hoL (by rw [hal]; omega) (fun h2 => ?_) fun out g1 g2 => ⟨_, rfl, ?_⟩) (PyProof.Rows.args_list_sort _)))
  · refine SrtO.pairs_sortableO (by omega) (fun v hv => ?_) fun o' e => ?_
    · obtain ⟨t, y, rfl, hy⟩ := hip v hv
      rw [pairAt_eq hy]
      exact (isPair_of I1 hy).keeps fun b o e _ => Heap.get?_push_of_some _ e
    · have e' : some o' = some (seqObj "list" acc'.toList.toArray 0) := e.symm.trans hoL
      cases e'
      intro c
      exact absurd (Value.type.inj c) (by decide)
  · obtain ⟨e', he'⟩ := PyProof.Rows.sortedHeap_at (vs := acc'.toList) (out := out.toArray) hoL
    obtain ⟨bs, ebs, pbs⟩ := back_pairs (vs := []) (out := out) fun v hv => hip v (g2.perm.mem_iff.mp hv)
    have hlen : (bs.map V.ref).length ≤ sizeLine := by
      have h1 := g2.perm.length_eq
      rw [ebs, List.length_map, hal] at h1
      rw [List.length_map]
      omega
    have hperm : (out.map (pairAt H)).Perm ks0 := by
      have := g2.perm.map (pairAt H)
      rw [eb, paired_map2 ik] at this
      exact this
    refine wpAny_pure ⟨_, rfl, .ref h'.objs.size, L2.upd H h'.objs.size (.lst (bs.map V.ref)), I1.laid (t' := tk) (fun b u e => ?_) (Nat.le_refl _)
      (show ObjOk X.prog X.w _ _ _ (.lst (bs.map V.ref)) from ⟨hlen, out, e', by rw [ebs]; exact vals_refs bs, he'⟩), rfl, q _ bs _ hperm (List.pairwise_map.mpr g1) (I1.hok.fresh (Nat.le_refl _)) pbs⟩
    have hb : b < h'.objs.size := Heap.lt_size e
    rw [PyProof.Rows.sortedHeap_old (Nat.ne_of_lt hb) (by rw [size_push']; exact Nat.lt_succ_of_lt hb)]
    exact Heap.get?_push_of_some _ e
end Rf
namespace Rf
open PySem L2 PySem.Spec PyProof.Rows
/-! ### list(d.items()), the keys texts and ints, or tuples of these -/
def rItemsT2 : V → Hp → VK → Prop := fun x H Q => ∃ (d : Addr) (kvs : List (List Key × V)), x = .ref d ∧ H d = some (.dT kvs) ∧
  ∀ (H' : Hp) (p : Addr) (ts bs : List Addr), (∀ b o, H b = some o → H' b = some o) → H p = none → (∀ t ∈ ts, H t = none) → p ∉ ts → H' p = some (.lst (ts.map V.ref)) → IsKeys H kvs bs → Paired (fun (t : Addr) (q : V × V) => H' t = some (.tup [q.1, q.2])) ts ((bs.map V.ref).zip (kvs.map Prod.snd)) → Q (.ref p) H'
def tLItems (te : TE) : TE := fun σ H Q => te σ H fun x H1 => LiI.rItemsL x H1 Q ∨ rItemsT2 x H1 Q
theorem kt_vals {H : Hp} : ∀ {kvs : List (List Key × V)} {ks : List (List Key × Addr × Value)}, KT H kvs ks → Vals (kvs.map Prod.snd) (ks.map fun x => x.2.2)
  | _, _, .nil => .nil
  | _, _, .cons h t => .cons h.2.2 (kt_vals t)
theorem pe_listItemsU {X : Cx} {e : Expr} {te : TE} {p apos cpos pos : Pos} (hc : X.calm = true) (he : PE X e te) (hg : Gl X "list") (hm : X.mg "list" = none) (hv : bootBuiltins "list" = some (.type "list")) (hbase : attributeBase e "items" X.env (eval e X.env) = eval e X.env := by rfl) (hline : (apos.endLine == cpos.line) = true := by rfl)
    (hs : starEach [.Call (.Attribute e "items" apos) [] [] cpos] X.env = (false, eval (.Call (.Attribute e "items" apos) [] [] cpos) X.env) :: starEach [] X.env := by rfl) :
    PE X (.Call (.Name "list" p) [.Call (.Attribute e "items" apos) [] [] cpos] [] pos) (tLItems te) := by
  refine ⟨fun pins s σ H Q I hq => ?_⟩
  refine wpAny_Call_Name_kw (ld_blt I hg hm hv ?_)
  refine PyProof.Rows.callWith_type1 ?_ hs rfl
  rw [hs]
  show wpAny _ _ (spliced ((false, eval (.Call (.Attribute e "items" apos) [] [] cpos) X.env) :: backTo pos (starEach [] X.env))) _ _ s
  refine Calls.spliced_cons ?_
  refine wpAny_Call_method (T := "dict") (id := "dict.items") hbase rfl hline F.plainAttrs_dict F.slot_dict_items F.type_dict_items (thn (he.run pins s σ H _ I hq) fun u s1 ⟨x, H1, I1, rx, h⟩ => ?_)
  rcases h with ⟨d, kvs, ex, hd, q⟩ | ⟨d, kvs, ex, hd, q⟩
  · subst ex
    obtain rfl : u = Value.ref d := rx
    obtain ⟨hz, hs0, vs, kv, hdo⟩ := I1.hok d _ hd
    obtain ⟨ep, hat⟩ := hdo.dictAt
    have lk : kvs.length = vs.length := Paired.length kv
    have I2 : L2.Inv X pins σ H1 { s1 with heap := s1.heap.push { cls := .type "dict_items", data := .fields #[.ref d] } } := I1.kept (t' := s1.toks) fun b ob q => Heap.get?_push_of_some _ q
    refine ⟨hdo.typeIs, hdo.mapOf.noDict, ?_⟩
    show wpAny _ _ (callWith cpos (.builtin "dict.items") [.ref d] [] []) _ X.xe s1
    refine method_meetsIn F.slot_dict_items F.entry_dict_items rfl (PySem.evalArgs_none ⟨rfl, hdo.typeIs, F.args_dict_items_1 _, _, meets_dict_items (mixKind X.prog X.w) d hs0, ⟨vs, hdo⟩, ?_⟩)
    refine Calls.spliced_nil ?_
    refine PySem.W.kdx_call (knd := mixKind X.prog X.w) (kvs := vs) (ep := ep) (I1.ok.hd hc) ⟨_, Heap.get?_push_size _ rfl, rfl, rfl⟩ (hat.push _) (by omega) fun h' tk acc c as hk hS hl hG hacc => ?_
    obtain ⟨H', k1, k2, k3, k4, k5, k6, J⟩ := LiI.items_laid (tk := tk) I2 hz kv hk hS hl hG hacc
    exact ⟨.ref _, H', J, rfl, q H' _ as k1 k2 k3 k4 k5 k6⟩
  · subst ex
    obtain rfl : u = Value.ref d := rx
    obtain ⟨z, hs0, ks, pr, o, es, ep, ho, hx, hdt, hee, hn⟩ := (show ObjOk X.prog X.w H1 s1.heap d (.dT kvs) from I1.hok d _ hd)
    have l1 : es.size = ks.length := size_of_entries hee
    have l2 : kvs.length = ks.length := Paired.length pr
    have raw : s1.heap.DictRaw d es ep := ⟨o, ho, hx, hdt⟩
    have I2 : L2.Inv X pins σ H1 { s1 with heap := s1.heap.push { cls := .type "dict_items", data := .fields #[.ref d] } } := I1.kept (t' := s1.toks) fun b ob q => Heap.get?_push_of_some _ q
    refine ⟨raw.typeIs, ?_, ?_⟩
    · intro b e
      injection e with e
      subst e
      exact ⟨o, ho, hx.2.1⟩
    show wpAny _ _ (callWith cpos (.builtin "dict.items") [.ref d] [] []) _ X.xe s1
    refine method_meetsIn F.slot_dict_items F.entry_dict_items rfl (PySem.evalArgs_none ⟨rfl, raw.typeIs, F.args_dict_items_1 _, _, meets_dict_items_raw d hs0, ⟨⟨_, _, raw⟩, ?_⟩⟩)
    refine Calls.spliced_nil ?_
    refine PySem.W.dil_call (es := es) (ep := ep) (I1.ok.hd hc) ⟨_, Heap.get?_push_size _ rfl, rfl, rfl⟩ (raw.push _) (by omega) fun h' tk acc c as hk hS hl hG hacc => ?_
    have hv1 : Vals (((ks.map fun x => x.2.1).map V.ref)) (es.toList.map fun e => e.key) := by
      rw [hee, show (ks.map (entryOfKey (tupleKind (mixKind X.prog X.w)))).map (fun e => e.key) = (ks.map fun x => x.2.1).map Value.ref by rw [List.map_map, List.map_map]; rfl]
      exact vals_refs (ks.map fun x => x.2.1)
    have hv2 : Vals (kvs.map Prod.snd) (es.toList.map fun e => e.val) := by
      rw [hee, List.map_map]
      exact kt_vals pr
    obtain ⟨H', k1, k2, k3, k4, k5, k6, J⟩ := zip_laid (tk := tk) I2 (Nat.le_refl _) (by rw [List.length_map, List.length_map]; omega) hv1 hv2 (by rw [List.length_map, List.length_map, List.length_map]; omega) hk hS (by rw [List.length_map, List.length_map]; omega) ⟨hG.rise, hG.above, fun j a ha => by
      obtain ⟨hj, e⟩ := hG.pairs j a ha
      refine ⟨es[j].key, es[j].val, ?_, ?_, ?_⟩
      · simp [hj]
      · simp [hj]
      · exact e⟩ hacc
    exact ⟨.ref _, H', J, rfl, q H' _ as _ k1 k2 k3 k4 k5 (isKeys_of pr) k6⟩
end Rf
namespace Rf
open PySem L2 PySem.Spec PyProof.Rows
/-! ### zip of three lists -/
def Itz3 (K : PySem.W.Frag) (a b c : Addr) : It :=
  ⟨fun i H => ∃ (xs ys zs : List V) (x y z : V), SqL K H a xs ∧ SqL K H b ys ∧ SqL K H c zs ∧ xs[i]? = some x ∧ ys[i]? = some y ∧ zs[i]? = some z,
    fun i H v H' => ∃ T x y z, v = .ref T ∧ H T = none ∧ H' = L2.upd H T (.tup [x, y, z]) ∧ (∀ xs, SqL K H a xs → xs[i]? = some x) ∧ (∀ ys, SqL K H b ys → ys[i]? = some y) ∧ ∀ zs, SqL K H c zs → zs[i]? = some z,
    fun i H => ∃ xs ys zs : List V, SqL K H a xs ∧ SqL K H b ys ∧ SqL K H c zs ∧ i = min (min xs.length ys.length) zs.length⟩
theorem turn_zip3 {P : Program} {w : World} {K : PySem.W.Frag} {elts : List Expr} {kk : Nat} {tpos : Pos} {a b c z TI TO i1 i2 i3 : Addr} (D : ZipSep3 z TI TO i1 i2 i3 [i1, a] [i2, b] [i3, c]) (n1 : a ≠ i1) (n2 : b ≠ i2) (n3 : c ≠ i3) :
    Turn P w K (.Tuple elts kk tpos) (Itz3 K a b c) [z, TI, TO, i1, i2, i3] z (fun i h => IsZip h z TI TO .none ∧ IsTupOf3 h TI (.ref i1) (.ref i2) (.ref i3) ∧ (∃ x y u, IsTupOf3 h TO x y u) ∧ h.IsListIter i1 a i ∧ h.IsListIter i2 b i ∧ h.IsListIter i3 c i) where
  mem := by simp
  obj := fun i h st c hc => by
    obtain ⟨hz, hTI, ⟨x, y, u, hTO⟩, ⟨o1, e1, _, d1⟩, ⟨o2, e2, _, d2⟩, ⟨o3, e3, _, d3⟩⟩ := st
    have e' : c = z ∨ c = TI ∨ c = TO ∨ c = i1 ∨ c = i2 ∨ c = i3 := by simpa using hc
    rcases e' with q | q | q | q | q | q
    · rw [q]; exact ⟨_, hz, fun v q => nomatch q⟩
    · rw [q]; exact ⟨_, hTI, fun v q => nomatch q⟩
    · rw [q]; exact ⟨_, hTO, fun v q => nomatch q⟩
    · rw [q]; exact ⟨o1, e1, fun v q => by rw [d1] at q; cases q⟩
    · rw [q]; exact ⟨o2, e2, fun v q => by rw [d2] at q; cases q⟩
    · rw [q]; exact ⟨o3, e3, fun v q => by rw [d3] at q; cases q⟩
  keep := fun i h h' st k => by
    obtain ⟨hz, hTI, ⟨x, y, u, hTO⟩, h1, h2, h3⟩ := st
    exact ⟨k z (by simp) _ hz, k TI (by simp) _ hTI, ⟨x, y, u, k TO (by simp) _ hTO⟩, h1.at fun o q => k i1 (by simp) o q, h2.at fun o q => k i2 (by simp) o q, h3.at fun o q => k i3 (by simp) o q⟩
  item := by
    intro X hP hw hK hc i pins s σ H E I hf st hg
    subst hP hw hK
    obtain ⟨hz, hTI, hTO, h1, h2, h3⟩ := st
    obtain ⟨xs, ys, zs, x, y, v, hqx, hqy, hqz, hx, hy, hv⟩ := hg
    obtain ⟨its, rv, p, _⟩ := I.list hqx
    obtain ⟨its2, rv2, p2, _⟩ := I.list hqy
    obtain ⟨its3, rv3, p3, _⟩ := I.list hqz
    obtain ⟨u, hu, ru⟩ := rv.get hx
    obtain ⟨u2, hu2, ru2⟩ := rv2.get hy
    obtain ⟨u3, hu3, ru3⟩ := rv3.get hv
    have hh := I.ok.hd hc
    have W := WalksT.zipD3 (A := X.A) D (Draws.list (prog := X.prog) (w := X.w) (A := X.A.in1) hh i1 a n1 its.toArray) (Draws.list (prog := X.prog) (w := X.w) (A := X.A.in1) hh i2 b n2 its2.toArray) (Draws.list (prog := X.prog) (w := X.w) (A := X.A.in1) hh i3 c n3 its3.toArray)
    have hl1 := (List.getElem?_eq_some_iff.mp hu).1
    have hl2 := (List.getElem?_eq_some_iff.mp hu2).1
    have hl3 := (List.getElem?_eq_some_iff.mp hu3).1
    refine W.item i s _ _ (by simp only [List.size_toArray]; omega) ⟨hz, hTI, hTO, ⟨h1, p.isList⟩, ⟨h2, p2.isList⟩, ⟨h3, p3.isList⟩⟩ fun T vals h' tk hP hT hI hM hk => ?_
    refine ⟨_, rfl, W.go elts kk tpos i T { s with heap := h', toks := tk } _ _ hM fun h'' hst hk2 => ?_⟩
    obtain ⟨w1, w2, w3, q1, q2, q3, rfl⟩ := hP
    have f1 : u = w1 := by
      have : its[i]? = some w1 := by simpa using q1
      exact Option.some.inj (hu.symm.trans this)
    have f2 : u2 = w2 := by
      have : its2[i]? = some w2 := by simpa using q2
      exact Option.some.inj (hu2.symm.trans this)
    have f3 : u3 = w3 := by
      have : its3[i]? = some w3 := by simpa using q3
      exact Option.some.inj (hu3.symm.trans this)
    subst f1 f2 f3
    have hTw := W.apart i T h' hM
    have hT2 : h''.IsTuple T #[u, u2, u3] := hI.at fun o q => hk2 T o hTw q
    have new : ObjOk X.prog X.w (L2.upd H T (.tup [x, y, v])) h'' T (.tup [x, y, v]) :=
      ⟨by show 3 ≤ sizeLine; decide, [u, u2, u3], .cons ru (.cons ru2 (.cons ru3 .nil)), hT2⟩
    have sub : ∀ d, d ∉ [z, TI, TO, i1, i2, i3] → d ∉ [z, TO, i1, i2, i3] := fun d h q => h (by
      have q' : d = z ∨ d = TO ∨ d = i1 ∨ d = i2 ∨ d = i3 := by simpa using q
      rcases q' with e | e | e | e | e <;> simp [e])
    have I1 : L2.Inv X pins σ (L2.upd H T (.tup [x, y, v])) { s with heap := h'', toks := tk } :=
      I.turnedNew (t' := tk) (ch := [z, TI, TO, i1, i2, i3]) (fun d o hb q => hk2 d o (sub d hb) (hk d o (sub d hb) q)) hf hT new
    obtain ⟨g1, g2, g3, g4, g5, g6⟩ := hst
    refine ⟨.ref T, _, I1, rfl, ⟨_, x, y, v, rfl, I.hok.fresh hT, rfl, fun l hl => by rw [I.list_inj hl hqx]; exact hx, fun l hl => by rw [I.list_inj hl hqy]; exact hy, fun l hl => by rw [I.list_inj hl hqz]; exact hv⟩, ⟨g1, g2, g3, g4.1, g5.1, g6.1⟩, fun d hcm => ?_⟩
    have hlt : d < s.heap.objs.size := by
      have e' : d = z ∨ d = TI ∨ d = TO ∨ d = i1 ∨ d = i2 ∨ d = i3 := by simpa using hcm
      obtain ⟨x0, y0, u0, hTO⟩ := hTO
      rcases e' with q | q | q | q | q | q
      · rw [q]; exact Heap.lt_size hz
      · rw [q]; exact Heap.lt_size hTI
      · rw [q]; exact Heap.lt_size hTO
      · rw [q]; obtain ⟨_, e1, _⟩ := h1; exact Heap.lt_size e1
      · rw [q]; obtain ⟨_, e2, _⟩ := h2; exact Heap.lt_size e2
      · rw [q]; obtain ⟨_, e3, _⟩ := h3; exact Heap.lt_size e3
    rw [upd_ne (Nat.ne_of_lt (Nat.lt_of_lt_of_le hlt hT))]
    exact (hf d hcm).1
  done := by
    intro X hP hw hK hc i pins s σ H E I hf st hg
    subst hP hw hK
    obtain ⟨hz, hTI, hTO, h1, h2, h3⟩ := st
    obtain ⟨xs, ys, zs, hqx, hqy, hqz, he⟩ := hg
    obtain ⟨its, rv, p, _⟩ := I.list hqx
    obtain ⟨its2, rv2, p2, _⟩ := I.list hqy
    obtain ⟨its3, rv3, p3, _⟩ := I.list hqz
    have l1 := rv.length
    have l2 := rv2.length
    have l3 := rv3.length
    have hh := I.ok.hd hc
    have W := WalksT.zipD3 (A := X.A) D (Draws.list (prog := X.prog) (w := X.w) (A := X.A.in1) hh i1 a n1 its.toArray) (Draws.list (prog := X.prog) (w := X.w) (A := X.A.in1) hh i2 b n2 its2.toArray) (Draws.list (prog := X.prog) (w := X.w) (A := X.A.in1) hh i3 c n3 its3.toArray)
    have hn : i = min (min its.toArray.size its2.toArray.size) its3.toArray.size := by simp only [List.size_toArray]; omega
    subst hn
    refine W.done s _ _ ⟨hz, hTI, hTO, ⟨h1, p.isList⟩, ⟨h2, p2.isList⟩, ⟨h3, p3.isList⟩⟩ fun h' tk hk => ⟨rfl, I.turnedL (t' := tk) (ch := [z, TI, TO, i1, i2, i3]) (fun d o hb q => hk d o (fun q => hb (by
      have q' : d = z ∨ d = TO ∨ d = i1 ∨ d = i2 ∨ d = i3 := by simpa using q
      rcases q' with e | e | e | e | e <;> simp [e])) q) hf⟩
  self := fun A i s Q E st h => wpAny_pyIter_zip st.1 h
def iZip3 (K : PySem.W.Frag) (ta : TA) : TI := fun σ H R => ta σ H fun vs H1 => ∃ a b c xs ys zs, vs = [.ref a, .ref b, .ref c] ∧ SqL K H1 a xs ∧ SqL K H1 b ys ∧ SqL K H1 c zs ∧ R (Itz3 K a b c) H1
theorem pi_zip3 {X : Cx} {e e2 e3 : Expr} {ta : TA} {p pos tpos : Pos} {elts : List Expr} {kk : Nat} (hg : Gl X "zip") (hm : X.mg "zip" = none) (ha : PA X [e, e2, e3] ta)
    (hs : starEach [e, e2, e3] X.env = (false, eval e X.env) :: starEach [e2, e3] X.env := by rfl) (hpl : (backTo pos (starEach [e2, e3] X.env)).any (·.1) = false := by rfl) :
    PI X (.Tuple elts kk tpos) (.Call (.Name "zip" p) [e, e2, e3] [] pos) (iZip3 X.K ta) := by
  refine ⟨fun pins s σ H R I h => ?_⟩
  refine Call_ (ld_blt I hg hm PyProof.Rows.boot_zip (PyProof.Rows.callWith_type1 (thn (ha.run pos pins s σ H _ I h) fun us s1 ⟨vs, H1, I1, r1, q1⟩ => ?_) hs hpl))
  obtain ⟨a, b, c, xs, ys, zs, ex, hqx, hqy, hqz, q⟩ := q1
  subst ex
  cases r1 with
  | cons r rr =>
    cases rr with
    | cons r' rr =>
      cases rr with
      | cons r'' rr =>
        cases rr
        cases r
        cases r'
        cases r''
        obtain ⟨its, rv, p1, _⟩ := I1.list hqx
        obtain ⟨its2, rv2, p2, _⟩ := I1.list hqy
        obtain ⟨its3, rv3, p3, _⟩ := I1.list hqz
        have la : a < s1.heap.objs.size := p1.lt
        have lb : b < s1.heap.objs.size := p2.lt
        have lc : c < s1.heap.objs.size := p3.lt
        refine zip_begins3 (begins_list a its.toArray) (begins_list b its2.toArray) (begins_list c its3.toArray) p1.isList p2.isList p3.isList fun h' hz hTI hTO g1 g2 g3 hsz hk => wpAny_pyIter_zip hz ?_
        have I2 : L2.Inv X pins σ H1 { s1 with heap := h' } := I1.kept (t' := s1.toks) hk
        have S := zip_sep3 (N := s1.heap.objs.size) (fp1 := [a]) (fp2 := [b]) (fp3 := [c]) (by simpa using la) (by simpa using lb) (by simpa using lc)
        refine ⟨s1.heap.objs.size + 5, [s1.heap.objs.size + 5, s1.heap.objs.size + 3, s1.heap.objs.size + 4, s1.heap.objs.size, s1.heap.objs.size + 1, s1.heap.objs.size + 2], _, _, H1, rfl, I2, turn_zip3 S (Nat.ne_of_lt la) (Nat.ne_of_lt (Nat.lt_succ_of_lt lb)) (Nat.ne_of_lt (Nat.lt_succ_of_lt (Nat.lt_succ_of_lt lc))), ⟨hz, hTI, ⟨_, _, _, hTO⟩, ⟨_, g1, rfl, rfl⟩, ⟨_, g2, rfl, rfl⟩, ⟨_, g3, rfl, rfl⟩⟩, fun d hcm => ?_, q⟩
        have hle : s1.heap.objs.size ≤ d := by
          have e' : d = s1.heap.objs.size + 5 ∨ d = s1.heap.objs.size + 3 ∨ d = s1.heap.objs.size + 4 ∨ d = s1.heap.objs.size ∨ d = s1.heap.objs.size + 1 ∨ d = s1.heap.objs.size + 2 := by simpa using hcm
          rcases e' with z | z | z | z | z | z <;> rw [z]
          all_goals first | exact Nat.le_refl _ | exact Nat.le_add_right _ _
        exact I1.fpOk hle (I1.hok.fresh hle)
def YTri (xs ys zs : Nat → Option V) : Nat → Hp → V → Hp → Prop := fun i H v H' => ∃ T x y z, v = .ref T ∧ H T = none ∧ H' = L2.upd H T (.tup [x, y, z]) ∧ xs i = some x ∧ ys i = some y ∧ zs i = some z
theorem walk_zip3 {K : PySem.W.Frag} {a b c : Addr} {xs ys zs : List V} {n : Nat} (hx : xs.length = n) (hy : ys.length = n) (hz : zs.length = n) : Walk (Itz3 K a b c) n (fun H => SqL K H a xs ∧ SqL K H b ys ∧ SqL K H c zs) (YTri (fun i => xs[i]?) (fun i => ys[i]?) (fun i => zs[i]?)) := by
  refine ⟨fun i _ hi q => ⟨xs, ys, zs, xs[i], ys[i], zs[i], q.1, q.2.1, q.2.2, List.getElem?_eq_getElem _, List.getElem?_eq_getElem _, List.getElem?_eq_getElem _⟩, fun _ q => ⟨xs, ys, zs, q.1, q.2.1, q.2.2, by omega⟩, fun i H v H' _ q y => ?_⟩
  obtain ⟨T, x, y1, z, e1, e2, e3, e4, e5, e6⟩ := y
  exact ⟨T, x, y1, z, e1, e2, e3, e4 xs q.1, e5 ys q.2.1, e6 zs q.2.2⟩
end Rf
/-! list.remove: the first item that is == x goes -/
namespace Rf
open PySem L2 PySem.Spec PyProof.Rows
section
variable {X : Cx}
@[irreducible] def rRemU : V → List V → Hp → VK → Prop := fun x vs H Q => ∃ (l : Addr) (ys : List V) (y : V) (j : Nat) (z : V), x = V.ref l ∧ vs = [y] ∧ H l = some (.lst ys) ∧ flatV y = true ∧ ys.all flatV = true ∧ ys[j]? = some z ∧ eqV z y = true ∧
  (∀ (m : Nat) (z' : V), m < j → ys[m]? = some z' → eqV z' y = false) ∧ Q .non (upd H l (.lst (ys.eraseIdx j)))
theorem mt_remU : MtM X "list.remove" rRemU := by
  intro pins s σ H x vs v us Q I rx rv h
  unfold rRemU at h
  obtain ⟨l, ys, y, j, z, rfl, rfl, hH, fy, fys, hz, hzj, hno, q⟩ := h
  cases rx
  obtain ⟨uy, rfl, ry⟩ := rv.one
  obtain ⟨zz, its, n, r, hl, e⟩ := I.lstM hH
  obtain ⟨u, hu, ru⟩ := r.get hz
  obtain ⟨hjl, hje⟩ := List.getElem?_eq_some_iff.mp hu
  have hj : j < its.toArray.size := by simpa using hjl
  refine call_meets PySem.F.slot_list_remove ⟨_, e, rfl⟩ PySem.F.entry_list_remove (PySem.F.args_list_remove_2 _ _)
    (SeqAt.list_removeAt l its.toArray n none #[] uy (eqU y) j hj ?_ ?_ (by rw [List.size_toArray]; omega)) ⟨e, fun u' hu' => mem_eqAt ry fy r fys u' (by simpa using hu'), ?_⟩
  · have e1 : its.toArray[j] = u := by simpa using hje
    rw [e1, eqU_of ru (flat_at fys hz)]
    exact hzj
  · intro m hm hmj
    have hml : m < its.length := by simpa using hm
    have hmy : m < ys.length := by omega
    have hy' : ys[m]? = some ys[m] := List.getElem?_eq_getElem hmy
    obtain ⟨u2, hu2, ru2⟩ := r.get hy'
    obtain ⟨_, hme⟩ := List.getElem?_eq_some_iff.mp hu2
    have e1 : its.toArray[m] = u2 := by simpa using hme
    rw [e1, eqU_of ru2 (flat_at fys hy')]
    exact hno m _ hmj hy'
  · refine ⟨.non, _, I.lset (its' := its.eraseIdx j) hH e ?_ (r.eraseIdx j) ?_, rfl, q⟩
    · show its.toArray.eraseIdxIfInBounds j = (its.eraseIdx j).toArray
      rw [List.eraseIdxIfInBounds_toArray]
    · have := len_erase ys j
      omega
end
end Rf
/-! enumerate(list, start=k) -/
namespace Rf
open PySem L2 PySem.Spec PyProof.Rows
/-- the list at a as it stands at each turn, each item in a new pair with its number, from k on -/
def IteS (K : PySem.W.Frag) (a : Addr) (k : Int) : It :=
  ⟨fun i H => ∃ (xs : List V) (x : V), SqL K H a xs ∧ xs[i]? = some x, fun i H v H' => ∃ T x, v = .ref T ∧ H T = none ∧ H' = upd H T (.tup [.int (k + (i : Nat)), x]) ∧ ∀ xs, SqL K H a xs → xs[i]? = some x, fun i H => ∃ xs : List V, SqL K H a xs ∧ xs.length ≤ i⟩
theorem own_enum_end {prog : Program} {w : World} {A : Around} {E : Value → Shared → Prop} {s : Shared} {e it l : Addr} {c : Int} {i : Nat} {items : Array Value} {old : Value} {Q : Option Value → Shared → Prop} (hh : A.handled = none)
    (he : IsEnum s.heap e it c old) (hit : s.heap.IsListIter it l i) (hl : s.heap.IsList l items) (hx : items[i]? = none)
    (q : ∀ h', Heap.ExtBut it s.heap h' → Q none { s with heap := h' }) : wpAny (model prog w) A (pyNext (.ref e)) Q E s := by
  have ty : s.TypeIs (.ref e) "enumerate" := ⟨_, he, rfl⟩
  unfold pyNext
  refine wpAny_bind (wpAny_attempt (wpAny_callSpecial?_slot (name := Str.ofString "__next__") ty F.slot_enumerate_next (wpAny_call_entry F.slot_enumerate_next ty F.entry_enumerate_next ?_ (F.args_enumerate_next_1 _))))
  show wpAny _ _ (field (.ref e) 2 >>= _) _ _ _
  refine wpAny_bind (wpAny_field he rfl (x := .ref it) rfl (wpAny_bind (wpAny_nextOf_list_end hh hit hl hx fun h' x he' hx' => ?_)))
  obtain ⟨o, ho, hc⟩ := hx'
  exact wpAny_bind (wpAny_isInstance (T := "StopIteration") (b := true) ⟨o, ho, hc⟩ isSubtype_stop (wpAny_pure (q _ he')))
theorem turn_enumS {P : Program} {w : World} {K : PySem.W.Frag} {elts : List Expr} {kk : Nat} {tpos : Pos} (a e it : Addr) (k0 : Int) (hea : e ≠ a) (hai : a ≠ it) :
    Turn P w K (.Tuple elts kk tpos) (IteS K a k0) [e, it] e (fun i h => (∃ old, IsEnum h e it (k0 + ((i : Nat) : Int)) old) ∧ h.IsListIter it a i ∧ e ≠ it) where
  mem := by simp
  obj := fun i h st b hb => by
    obtain ⟨⟨old, he⟩, ⟨o, ho, hc, hd⟩, _⟩ := st
    have e' : b = e ∨ b = it := by simpa using hb
    rcases e' with z | z
    · rw [z]; exact ⟨_, he, fun v q => nomatch q⟩
    · rw [z]; exact ⟨o, ho, fun v q => by rw [hd] at q; cases q⟩
  keep := fun i h h' st k => let ⟨⟨old, he⟩, hi, hne⟩ := st; ⟨⟨old, k e (by simp) _ he⟩, hi.at fun o q => k it (by simp) o q, hne⟩
  item := by
    intro X hP hw hK hc i pins s σ H E I hf st hg
    subst hP hw hK
    obtain ⟨⟨old, he⟩, hit, hne⟩ := st
    obtain ⟨xs, x, hq, hx⟩ := hg
    obtain ⟨its, rv, p, hz⟩ := I.list hq
    obtain ⟨u, hu, ru⟩ := rv.get hx
    have hel : e < s.heap.objs.size := Heap.lt_size he
    have hil : it < s.heap.objs.size := by obtain ⟨_, q, _⟩ := hit; exact Heap.lt_size q
    have hlt : i < its.toArray.size := by
      have := (List.getElem?_eq_some_iff.mp hu).1
      simpa using this
    refine wpAny_pyNext_enum_itemC (Draws.list (A := X.A.in1) (show X.A.in1.handled = none from I.ok.hd hc) it a hai its.toArray) he ⟨hit, p.isList⟩ hlt hne (by simp [hne, hea]) fun x' h' tk hx' ho hst hT hsz hk => ?_
    obtain ⟨hit', _⟩ := hst
    obtain rfl : x' = u := by
      have h1 : its.toArray[i]? = some u := by simpa using hu
      exact Option.some.inj (hx'.symm.trans h1)
    refine ⟨_, rfl, wpAny_letOwnedTupleGo_enum (s := { s with heap := h', toks := tk + 1 }) ho fun h'' he' sb => ?_⟩
    have hT2 : h''.get? s.heap.objs.size = some { cls := .type "tuple", data := .seq #[.int (k0 + i) tk, x'] } := (sb.2 _ (Nat.ne_of_gt hel)).trans hT
    have new : ObjOk X.prog X.w (upd H s.heap.objs.size (.tup [.int (k0 + (i : Nat)), x])) h'' s.heap.objs.size (.tup [.int (k0 + (i : Nat)), x]) :=
      ⟨by show 2 ≤ sizeLine; decide, [.int (k0 + i) tk, x'], .cons ⟨_, rfl⟩ (.cons ru .nil), ⟨_, hT2, rfl, _, rfl⟩⟩
    have I1 : Inv X pins σ (upd H s.heap.objs.size (.tup [.int (k0 + (i : Nat)), x])) { s with heap := h'', toks := tk + 1 } :=
      I.turnedNew (ch := [e, it]) (fun b ob hb q => (sb.2 b (fun z => hb (by simp [z]))).trans (hk b ob (fun z => hb (by simp [z])) (fun z => hb (by simp [z])) q)) hf (Nat.le_refl _) new
    refine ⟨.ref s.heap.objs.size, _, I1, rfl, ⟨_, x, rfl, I.hok.fresh (Nat.le_refl _), rfl, fun ys hy => by rw [I.list_inj hy hq]; exact hx⟩, ⟨⟨x', ?_⟩, hit'.at fun o q => (sb.2 it (Ne.symm hne)).trans q, hne⟩, fun b hb => ?_⟩
    · have e1 : k0 + ((i + 1 : Nat) : Int) = k0 + (i : Int) + 1 := by omega
      rw [e1]; exact he'
    · have hb' : b < s.heap.objs.size := by
        have e' : b = e ∨ b = it := by simpa using hb
        rcases e' with z | z
        · rw [z]; exact hel
        · rw [z]; exact hil
      rw [upd_ne (Nat.ne_of_lt hb')]
      exact (hf b hb).1
  done := by
    intro X hP hw hK hc i pins s σ H E I hf st hg
    subst hP hw hK
    obtain ⟨⟨old, he⟩, hit, hne⟩ := st
    obtain ⟨xs, hq, hx⟩ := hg
    obtain ⟨its, rv, p, hz⟩ := I.list hq
    obtain ⟨f0, f1, f2, f3, f4, f5⟩ := hf it (by simp)
    have hl := rv.length
    exact own_enum_end (I.ok.hd hc) he hit p.isList (by simp; omega) fun h' eb => ⟨rfl, I.turned (t' := s.toks) (fun b o hb q => eb b o hb q) f0 f1 f3 f4 f5⟩
  self := fun A i s Q E st h => let ⟨⟨_, he⟩, _⟩ := st; wpAny_pyIter_enum he h
theorem own_callWith_typeK {M : Model} {A : Around} {E : Value → Shared → Prop} {s : Shared} {pos : Pos} {T : String} {args : List (Bool × Sem Value)} {kws : List (Option Str × Sem Value)} {Q : Value → Shared → Prop}
    (hplain : (args.any (·.1) || kws.any (·.1.isNone)) = false)
    (h : wpAny M A (evalArgs (.type T) true args kws) (fun a s₁ => wpAny M A (call (.type T) ([] ++ a.pos) a.kw) Q E s₁) E s) :
    wpAny M A (callWith pos (.type T) [] args kws) Q E s := by
  unfold callWith
  refine wpAny_bind (wpAny_holding (wpAny_mono h (fun a s₁ h₁ => wpAny_bind (wpAny_standAt ?_)) fun _ _ x => x))
  simp only [hplain]
  refine wpAny_bind (wpAny_pure ?_)
  exact wpAny_bind (wpAny_mono h₁ (fun r s₂ hr => wpAny_bind (wpAny_holding (wpAny_point (wpAny_pure hr)))) fun _ _ x => x)
def iEnumSt (K : PySem.W.Frag) (k : Int) (ta : TA) : TI := fun σ H R => ta σ H fun vs H1 => ∃ a xs, vs = [.ref a] ∧ SqL K H1 a xs ∧ R (IteS K a k) H1
theorem pi_enumSt {X : Cx} {e v : Expr} {ta : TA} {p pos tpos kp : Pos} {elts : List Expr} {kk : Nat} {k : Int} (hk0 : -(2 ^ 63) ≤ k) (hk1 : k < 2 ^ 63) (hg : Gl X "enumerate") (hm : X.mg "enumerate" = none) (ha : PA X [e] ta) (hv : PE X v (tC (.int k))) (hs : starEach [e] X.env = [(false, eval e X.env)] := by rfl) :
    PI X (.Tuple elts kk tpos) (.Call (.Name "enumerate" p) [e] [⟨some "start", v, kp⟩] pos) (iEnumSt X.K k ta) := by
  refine ⟨fun pins s σ H R I h => ?_⟩
  refine wpAny_Call_Name_kw (ld_blt I hg hm boot_enumerate ?_)
  have hA := ha.run pos pins s σ H _ I h
  rw [hs] at hA ⊢
  refine own_callWith_typeK rfl (evalArgs_kw rfl (thn hA fun us s1 ⟨vs, H1, I1, r1, q1⟩ => ?_))
  obtain ⟨a, xs, ex, hq, q⟩ := q1
  subst ex
  cases r1 with
  | cons r rr =>
    cases rr
    cases r
    have hV := (pk_cons (nm := some "start") (kpos := kp) hv pk_nil).run pos pins s1 σ H1 (fun zs H2 => zs = [.int k] ∧ H2 = H1) I1 ⟨rfl, rfl⟩
    refine thn hV fun ws s2 ⟨zs, H2, I2, rz, e1, e2⟩ => ?_
    subst e1 e2
    obtain ⟨w1, rfl, t, rfl⟩ : ∃ w1, ws = [w1] ∧ ∃ t, w1 = Value.int k t := by
      cases rz with
      | cons r1 rr =>
        cases rr
        obtain ⟨t, e⟩ := r1
        exact ⟨_, rfl, t, e⟩
    obtain ⟨its, rv, p', hz⟩ := I2.list hq
    show wpAny _ _ (call (.type "enumerate") [.ref a] [(Str.ofString "start", .int k t)]) _ _ s2
    refine enum_begins_start (begins_list a its.toArray) p'.isList hk0 hk1 fun h' he hit hsz hk => wpAny_pyIter_enum he ?_
    have hal : a < s2.heap.objs.size := by obtain ⟨o, ho, _⟩ := p'.isList; exact Heap.lt_size ho
    have I3 : Inv X pins σ H2 { s2 with heap := h' } := I2.kept (t' := s2.toks) hk
    refine ⟨s2.heap.objs.size + 1, [s2.heap.objs.size + 1, s2.heap.objs.size], _, _, H2, rfl, I3, turn_enumS a (s2.heap.objs.size + 1) s2.heap.objs.size k (Nat.ne_of_gt (Nat.lt_succ_of_lt hal)) (Nat.ne_of_lt hal), ⟨⟨.none, by show IsEnum _ _ _ (k + 0) _; rw [Int.add_zero]; exact he⟩, ⟨_, hit, rfl, rfl⟩, Nat.succ_ne_self _⟩, fun b hb => ?_, q⟩
    have e' : b = s2.heap.objs.size + 1 ∨ b = s2.heap.objs.size := by simpa using hb
    have hle : s2.heap.objs.size ≤ b := by
      rcases e' with z | z
      · rw [z]; exact Nat.le_add_right _ _
      · rw [z]; exact Nat.le_refl _
    exact I2.fpOk hle (I2.hok.fresh hle)
theorem walk_enumS {K : PySem.W.Frag} {a : Addr} {k : Int} {xs : List V} : Walk (IteS K a k) xs.length (fun H => SqL K H a xs) (fun i H v H' => ∃ T x, xs[i]? = some x ∧ v = .ref T ∧ H T = none ∧ H' = L2.upd H T (.tup [.int (k + (i : Nat)), x])) :=
  ⟨fun i _ hi q => ⟨xs, xs[i], q, List.getElem?_eq_getElem hi⟩, fun _ q => ⟨xs, q, Nat.le_refl _⟩, fun i H v H' hi q ⟨T, x, e1, e2, e3, e4⟩ => ⟨T, x, e4 xs q, e1, e2, e3⟩⟩
end Rf
namespace Rf
open PySem L2 PySem.Spec PyProof.Rows

/-! ### built-in functions, by name -/
structure BFn (K : PySem.W.Frag) (x : Str) where
  val : Value
  r : List V → Hp → VK → Prop
  kind : (∃ id, val = .builtin id) ∨ ∃ T, val = .type T
  boot : bootBuiltins x = some val
  nm : x ≠ "__name__"
  cool : Bool
  ok : ∀ X : Cx, X.K = K → (cool = false → X.calm = true) → X.A.units + 100 < cLine → CallR X val r
def rLenU (K : PySem.W.Frag) : List V → Hp → VK → Prop := fun xs H Q => match xs with
  | [.str y] => y.length ≤ sizeLine ∧ Q (.int (y.length : Nat)) H
  | [.ref p] => (∃ ys, SqL K H p ys ∧ Q (.int (ys.length : Nat)) H) ∨ (∃ ys, SqT K H p ys ∧ Q (.int (ys.length : Nat)) H) ∨ (∃ kvs, H p = some (.dK kvs) ∧ Q (.int (kvs.length : Nat)) H) ∨ (∃ kvs, H p = some (.dT kvs) ∧ Q (.int (kvs.length : Nat)) H) ∨ ∃ n nn, H p = some (oddO p n nn) ∧ Q (.int (n : Nat)) H
  | _ => False
theorem callMono {X : Cx} {f : Value} {r r' : List V → Hp → VK → Prop} (h : CallR X f r) (i : ∀ xs H Q, r' xs H Q → r xs H Q) : CallR X f r' := fun pins s σ H xs us Q I rx q => h pins s σ H xs us Q I rx (i xs H Q q)
theorem lenU_ok {X : Cx} : CallR X (.builtin "len") (rLenU X.K) := callMono (callOr call_len (callOr call_lenD (callOr call_len_dT call_lenOdd))) fun xs H Q q => by
  unfold rLenU at q
  split at q
  · exact .inl ⟨_, _, rfl, ⟨q.1, rfl⟩, q.2⟩
  · rcases q with ⟨ys, h, q⟩ | ⟨ys, h, q⟩ | ⟨kvs, h, q⟩ | ⟨kvs, h, q⟩ | ⟨n, nn, h, q⟩
    · exact .inl ⟨_, _, rfl, .inl ⟨ys, h, rfl⟩, q⟩
    · exact .inl ⟨_, _, rfl, .inr ⟨ys, h, rfl⟩, q⟩
    · exact .inr (.inl ⟨_, _, rfl, h, q⟩)
    · exact .inr (.inr (.inl ⟨_, _, rfl, h, q⟩))
    · exact .inr (.inr (.inr ⟨_, _, _, rfl, h, q⟩))
  · exact q.elim
def rAbsU : List V → Hp → VK → Prop := fun xs H Q => match xs with
  | [.int i] => Q (.int (if i < 0 then -i else i)) H
  | _ => False
theorem absU_ok {X : Cx} : CallR X (.builtin "abs") rAbsU := callMono call_abs fun xs H Q q => by
  unfold rAbsU at q
  split at q
  · exact ⟨_, rfl, q⟩
  · exact q.elim
def rMaxU (K : PySem.W.Frag) : List V → Hp → VK → Prop := fun xs H Q => match xs with
  | [.int i, .int j] => Q (.int (if j > i then j else i)) H
  | [.int i, .int j, .int k] => Q (.int (if j > i then (if k > j then k else j) else (if k > i then k else i))) H
  | xs => rMax K xs H Q
def rMinU (K : PySem.W.Frag) : List V → Hp → VK → Prop := fun xs H Q => match xs with
  | [.int i, .int j] => Q (.int (if j < i then j else i)) H
  | xs => rMin K xs H Q
theorem call_max3 {X : Cx} (hc : X.calm = true) : CallR X (.builtin "max") (fun xs H Q => ∃ i j k, xs = [.int i, .int j, .int k] ∧ Q (.int (if j > i then (if k > j then k else j) else (if k > i then k else i))) H) := by
  intro pins s σ H xs us Q I r h
  obtain ⟨i, j, l, rfl, q⟩ := h
  obtain ⟨u1, w1, rfl, ⟨t1, rfl⟩, r2⟩ : ∃ u w, us = u :: w ∧ L2.RelV (.int i) u ∧ Vals [.int j, .int l] w := by
    cases r with
    | cons a b => exact ⟨_, _, rfl, a, b⟩
  obtain ⟨u2, u3, rfl, ⟨t2, rfl⟩, ⟨t3, rfl⟩⟩ := vals2 r2
  refine max_three_ints (I.ok.hd hc) fun h' tk k => ⟨_, H, I.kept k, ?_, q⟩
  by_cases h1 : j > i
  · rw [if_pos h1, if_pos h1]
    by_cases h2 : l > j
    · rw [if_pos h2, if_pos h2]; exact ⟨_, rfl⟩
    · rw [if_neg h2, if_neg h2]; exact ⟨_, rfl⟩
  · rw [if_neg h1, if_neg h1]
    by_cases h2 : l > i
    · rw [if_pos h2, if_pos h2]; exact ⟨_, rfl⟩
    · rw [if_neg h2, if_neg h2]; exact ⟨_, rfl⟩
theorem maxU_ok {X : Cx} (hc : X.calm = true) : CallR X (.builtin "max") (rMaxU X.K) := callMono (callOr (call_max2 hc) (callOr (call_max3 hc) (cr_max hc))) fun xs H Q q => by
  unfold rMaxU at q
  split at q
  · exact .inl ⟨_, _, rfl, q⟩
  · exact .inr (.inl ⟨_, _, _, rfl, q⟩)
  · exact .inr (.inr q)
theorem minU_ok {X : Cx} (hc : X.calm = true) : CallR X (.builtin "min") (rMinU X.K) := callMono (callOr (call_min2 hc) (cr_min hc)) fun xs H Q q => by
  unfold rMinU at q
  split at q
  · exact .inl ⟨_, _, rfl, q⟩
  · exact .inr q
/-- isinstance of values of built-in kinds, against built-in classes -/
def isL1 : List String := ["NoneType", "bool", "int", "str", "list", "tuple", "dict"]
def isL2 : List String := ["int", "bool", "str", "list", "dict", "tuple"]
def isA (a b : String) : Bool := a == b || (a == "bool" && b == "int")
def isO (a b : String) : Option Bool := if isL1.contains a && isL2.contains b then some (isA a b) else none
theorem isTab : isL1.all (fun a => isL2.all fun b => decide (kitB a b = some (isA a b))) = true := by decide +kernel
theorem isO_ok {a b : String} {r : Bool} (h : isO a b = some r) : kitB a b = some r := by
  unfold isO at h
  by_cases e : (isL1.contains a && isL2.contains b) = true
  · rw [if_pos e] at h
    cases h
    obtain ⟨e1, e2⟩ := Bool.and_eq_true_iff.mp e
    exact of_decide_eq_true (List.all_eq_true.mp (List.all_eq_true.mp isTab a (by simpa using e1)) b (by simpa using e2))
  · rw [if_neg e] at h
    cases h
@[irreducible] def rIsiU (K : PySem.W.Frag) : List V → Hp → VK → Prop := fun xs H Q => match xs with
  | [.int _, .ty T] => ∃ b, isO "int" T = some b ∧ Q (.bl b) H
  | [.bl _, .ty T] => ∃ b, isO "bool" T = some b ∧ Q (.bl b) H
  | [.str _, .ty T] => ∃ b, isO "str" T = some b ∧ Q (.bl b) H
  | [.non, .ty T] => ∃ b, isO "NoneType" T = some b ∧ Q (.bl b) H
  | [.ref p, .ty T] => ∃ t, TyY K H (.ref p) (.type t) ∧ ∃ b, isO t T = some b ∧ Q (.bl b) H
  | xs => rIsi K xs H Q ∨ rIsiT K xs H Q
theorem isiU_ok {X : Cx} : CallR X (.builtin "isinstance") (rIsiU X.K) := callMono (callOr call_isiY (callOr call_isi call_isiT)) fun xs H Q q => by
  unfold rIsiU at q
  split at q
  · obtain ⟨b, h, q⟩ := q
    exact .inl ⟨_, _, _, _, b, rfl, .ty _, .base (.int _), kit_ty (isO_ok h), q⟩
  · obtain ⟨b, h, q⟩ := q
    exact .inl ⟨_, _, _, _, b, rfl, .ty _, .base (.bl _), kit_ty (isO_ok h), q⟩
  · obtain ⟨b, h, q⟩ := q
    exact .inl ⟨_, _, _, _, b, rfl, .ty _, .base (.str _), kit_ty (isO_ok h), q⟩
  · obtain ⟨b, h, q⟩ := q
    exact .inl ⟨_, _, _, _, b, rfl, .ty _, .base .non, kit_ty (isO_ok h), q⟩
  · obtain ⟨t, ht, b, h, q⟩ := q
    exact .inl ⟨_, _, _, _, b, rfl, .ty _, ht, kit_ty (isO_ok h), q⟩
  · exact .inr q
def rStrU : List V → Hp → VK → Prop := fun xs H Q => ∃ i, xs = [.int i] ∧ i.natAbs.log2 < 1920 ∧ Q (.str (toString i)) H
def rIntU : List V → Hp → VK → Prop := fun xs H Q => match xs with
  | [.int i] => Q (.int i) H
  | [.bl k] => Q (.int (if k then 1 else 0)) H
  | xs => ∃ a n, xs = [.str a] ∧ PySem.intText? a = some n ∧ a.length ≤ 640 ∧ Q (.int n) H
theorem intU_ok {X : Cx} : CallR X (.type "int") rIntU := callMono (callOr call_int1 call_int_str) fun xs H Q q => by
  unfold rIntU at q
  split at q
  · exact .inl (.inl ⟨_, rfl, q⟩)
  · exact .inl (.inr ⟨_, rfl, q⟩)
  · exact .inr q
def bLen (K) : BFn K "len" := ⟨.builtin "len", rLenU K, .inl ⟨_, rfl⟩, boot_len, by decide, true, fun X e _ _ => e ▸ lenU_ok⟩
def bAbs (K) : BFn K "abs" := ⟨.builtin "abs", rAbsU, .inl ⟨_, rfl⟩, boot_abs, by decide, true, fun X _ _ _ => absU_ok⟩
def bMax (K) : BFn K "max" := ⟨.builtin "max", rMaxU K, .inl ⟨_, rfl⟩, boot_max, by decide, false, fun X e hc _ => e ▸ maxU_ok (hc rfl)⟩
def bMin (K) : BFn K "min" := ⟨.builtin "min", rMinU K, .inl ⟨_, rfl⟩, boot_min, by decide, false, fun X e hc _ => e ▸ minU_ok (hc rfl)⟩
def bIsi (K) : BFn K "isinstance" := ⟨.builtin "isinstance", rIsiU K, .inl ⟨_, rfl⟩, boot_isinstance, by decide, true, fun X e _ _ => e ▸ isiU_ok⟩
def bSum (K) : BFn K "sum" := ⟨.builtin "sum", rSum K, .inl ⟨_, rfl⟩, boot_sum, by decide, false, fun X e hc _ => e ▸ cr_sum (hc rfl)⟩
def bAll (K) : BFn K "all" := ⟨.builtin "all", rAll K, .inl ⟨_, rfl⟩, boot_all, by decide, false, fun X e hc _ => e ▸ cr_all (hc rfl)⟩
def bAny (K) : BFn K "any" := ⟨.builtin "any", rAny K, .inl ⟨_, rfl⟩, boot_any, by decide, false, fun X e hc _ => e ▸ cr_any (hc rfl)⟩
def bStr (K) : BFn K "str" := ⟨.type "str", rStrU, .inr ⟨_, rfl⟩, PyProof.Rows.boot_str, by decide, true, fun X _ _ _ => call_str_int⟩
def bInt (K) : BFn K "int" := ⟨.type "int", rIntU, .inr ⟨_, rfl⟩, PyProof.Rows.boot_int, by decide, true, fun X _ _ _ => intU_ok⟩
def bList (K) : BFn K "list" := ⟨.type "list", rListDU K, .inr ⟨_, rfl⟩, PyProof.Rows.boot_list, by decide, false, fun X e hc _ => e ▸ call_listDU (hc rfl)⟩
@[irreducible] def rDictU (K : PySem.W.Frag) : List V → Hp → VK → Prop := fun xs H Q => (∃ (a : Addr) (kvs : List (Key × V)), xs = [.ref a] ∧ Rd H a (.dK kvs) ∧ ∀ p, H p = none → Q (.ref p) (upd H p (.dK kvs))) ∨
  (∃ (a : Addr) (ps : List Addr) (kvs : List (Key × V)), xs = [.ref a] ∧ SqL K H a (ps.map V.ref) ∧ Paired (fun p kv => SqT K H p [kV kv.1, kv.2]) ps kvs ∧ ∀ p, H p = none → Q (.ref p) (upd H p (.dK (mergeK [] kvs))))
theorem dictU_ok {X : Cx} (hc : X.calm = true) : CallR X (.type "dict") (rDictU X.K) := by
  unfold rDictU
  exact callOr call_dictD (call_dictP hc)
def bDict (K) : BFn K "dict" := ⟨.type "dict", rDictU K, .inr ⟨_, rfl⟩, PyProof.Rows.boot_dict, by decide, false, fun X e hc _ => e ▸ dictU_ok (hc rfl)⟩
@[irreducible] def rTupU (K : PySem.W.Frag) : List V → Hp → VK → Prop := fun xs H Q => ∃ p ys, xs = [.ref p] ∧ ((SqL K H p ys ∧ ∀ l, H l = none → Q (.ref l) (upd H l (.tup ys))) ∨ (SqT K H p ys ∧ Q (.ref p) H))
theorem tupU_ok {X : Cx} : CallR X (.type "tuple") (rTupU X.K) := by
  unfold rTupU
  exact call_tuple_of
def bTup (K) : BFn K "tuple" := ⟨.type "tuple", rTupU K, .inr ⟨_, rfl⟩, PyProof.Rows.boot_tuple, by decide, true, fun X e _ _ => e ▸ tupU_ok⟩
@[irreducible] def rSrtU (K : PySem.W.Frag) : List V → Hp → VK → Prop := fun xs H Q => rSortedI K xs H Q ∨ rSortedS K xs H Q ∨ rSortedP K xs H Q ∨
  (∃ (a : Addr) (kvs : List (Key × V)) (ks : List Str), xs = [.ref a] ∧ Rd H a (.dK kvs) ∧ kvs.map (·.1) = ks.map Sum.inr ∧ ks.length < 64 ∧ ∀ ys p, ys.Perm ks → sortedS ys = true → H p = none → Q (.ref p) (upd H p (.lst (ys.map V.str)))) ∨
  (∃ (a : Addr) (kvs : List (Key × V)) (ks : List Int), xs = [.ref a] ∧ Rd H a (.dK kvs) ∧ kvs.map (·.1) = ks.map Sum.inl ∧ ks.length < 64 ∧ ∀ (ys : List Int) (p : Addr), ys.Perm ks → ys.Pairwise (· ≤ ·) → H p = none → Q (.ref p) (upd H p (.lst (ys.map V.int)))) ∨ rSortedDT xs H Q
theorem srtU_ok {X : Cx} (hc : X.calm = true) : CallR X (.builtin "sorted") (rSrtU X.K) := by
  unfold rSrtU
  exact callOr cr_sortedI (callOr cr_sortedS (callOr cr_sortedP (callOr (call_sortedD hc) (callOr (call_sortedDI hc) (call_sortedDT hc)))))
def bSrt (K) : BFn K "sorted" := ⟨.builtin "sorted", rSrtU K, .inl ⟨_, rfl⟩, boot_sorted, by decide, false, fun X e hc _ => e ▸ srtU_ok (hc rfl)⟩
def blt (K : PySem.W.Frag) (x : Str) : Option (BFn K x) :=
  if h : x = "len" then some (h ▸ bLen K) else if h : x = "abs" then some (h ▸ bAbs K) else if h : x = "max" then some (h ▸ bMax K) else if h : x = "min" then some (h ▸ bMin K)
  else if h : x = "isinstance" then some (h ▸ bIsi K) else if h : x = "sum" then some (h ▸ bSum K) else if h : x = "all" then some (h ▸ bAll K) else if h : x = "any" then some (h ▸ bAny K)
  else if h : x = "str" then some (h ▸ bStr K) else if h : x = "int" then some (h ▸ bInt K) else if h : x = "list" then some (h ▸ bList K) else if h : x = "dict" then some (h ▸ bDict K) else if h : x = "tuple" then some (h ▸ bTup K) else if h : x = "sorted" then some (h ▸ bSrt K) else none

/-- built-in classes as values -/
def tyNames : List (Str × String) := [("int", "int"), ("bool", "bool"), ("str", "str"), ("list", "list"), ("dict", "dict"), ("tuple", "tuple"), ("set", "set"), ("ValueError", "ValueError")]
theorem tyNames_ok : tyNames.all (fun p => decide (bootBuiltins p.1 = some (.type p.2)) && decide (p.1 ≠ "__name__")) = true := by decide +kernel

/-! ### names -/
def ixO : List Str → Str → Option Nat
  | [], _ => none
  | y :: r, x => if y = x then some 0 else (ixO r x).map (· + 1)
theorem ixO_ok : ∀ {N : List Str} {x : Str} {i : Nat}, ixO N x = some i → N[i]? = some x
  | [], _, _, h => by cases h
  | y :: r, x, i, h => by
    unfold ixO at h
    by_cases e : y = x
    · rw [if_pos e] at h
      cases h
      simp [e]
    · rw [if_neg e] at h
      obtain ⟨j, hj, rfl⟩ := Option.map_eq_some_iff.mp h
      simpa using ixO_ok hj
inductive GK where
  | fn (sp : Sp) (dvs : List V)
  | cls (C : Addr) (sp : Sp) (dvs : List V)
  | con (v : V)
  | bl
  | exc (C : Addr) (sp : Sp) (dvs : List V)
  | bex (C : Addr)
  | fnd (sp : Sp) (kw : List (Str × SpK))
structure GT where
  K : PySem.W.Frag
  N : List Str
  G : List (Str × GK)
  M : List (Str × Addr × Sp × List V)
  Hs : List (Str × SpE)
/-- what a callable of the program's own stands for -/
def FnK (X : Cx) (f : Addr) (k : Nat) (sp : Sp) (dvs : List V) : Prop := ∃ fd ps ds, FnOkG X.prog X.w X.K X.mg X.base (L2N.CX X.prog X.w) k f fd ps sp ∧ Binds X.K fd ps ds ∧ Vals dvs ds
/-- .. with defaults -/
def FnD (X : Cx) (f : Addr) (k : Nat) (sp : Sp) (kw : List (Str × SpK)) : Prop := ∃ fd ps sp0, FnOkG X.prog X.w X.K X.mg X.base (L2N.CX X.prog X.w) k f fd ps sp0 ∧ FillD X.K fd ps sp0 sp kw
/-- a block's names; whether no exception is handled; if not, the handled one, its class, its dict -/
structure SC where
  sc : Scope
  ow : Str → Bool
  cm : Bool
  xv : Option (Addr × Value × Option Addr)
/-- what a callable in an except suite stands for -/
def FnKE (X : Cx) (f : Addr) (k : Nat) (sp : SpE) : Prop := ∃ fd ps, FnE X.prog X.w X.K X.mg X.base (L2N.CX X.prog X.w) k f fd ps sp ∧ Binds X.K fd ps []
def owB (scope : Scope) (x : Str) : Bool := match scope.names.lookup x with
  | some .local => true
  | some .cell => true
  | _ => false
structure OkE (g : GT) (S : SC) (E : L2.St → XK) (X : Cx) : Prop where
  K : X.K = g.K
  N : X.N = g.N
  nd : X.N.Nodup
  sc : X.env.scope = S.sc
  ow : ∀ x, S.ow x = true → Loc X.env.scope x ∧ (X.fn x = true ∨ X.env.scope.names.lookup x = some .local)
  kd : X.env.scope.kind = .function
  calm : S.cm = true → X.calm = true
  un : X.A.units + 100 < cLine
  gd : S.cm = true → X.A.guards = some []
  ps : ∀ σ, PassesAt (L2N.CX X.prog X.w) X σ (E σ)
  fn : S.cm = true → ∀ x sp dvs, g.G.lookup x = some (.fn sp dvs) → ∃ f k, FnK X f k sp dvs ∧ RoomG k X.A ∧ X.mg x = some (.ref f) ∧ PySem.W.keepIn X.K (.ref f) = true
  fnd : S.cm = true → ∀ x sp kw, g.G.lookup x = some (.fnd sp kw) → ∃ f k, FnD X f k sp kw ∧ RoomG k X.A ∧ X.mg x = some (.ref f) ∧ PySem.W.keepIn X.K (.ref f) = true
  cls : S.cm = true → ∀ x C sp dvs, g.G.lookup x = some (.cls C sp dvs) → ∃ f k, FnK X f k sp dvs ∧ RoomG (k + 1) X.A ∧ X.mg x = some (.ref C) ∧ Mk X.K C f
  exc : S.cm = true → ∀ x C sp dvs, g.G.lookup x = some (.exc C sp dvs) → ∃ f k, FnK X f k sp dvs ∧ RoomG (k + 1) X.A ∧ X.mg x = some (.ref C) ∧ OexC X.K C ∧ PySem.W.findIn X.K (.ref C) "__init__" = some (some (.ref f)) ∧ PySem.W.typeIn X.K (.ref f) = some (.type "function")
  bex : ∀ x C, g.G.lookup x = some (.bex C) → X.mg x = some (.ref C) ∧ BaseE X.K C
  con : ∀ x v, g.G.lookup x = some (.con v) → ∃ u, X.mg x = some u ∧ RelV v u
  bl : ∀ x, g.G.lookup x = some .bl → X.mg x = none
  me : S.cm = true → ∀ m C sp dvs, (m, C, sp, dvs) ∈ g.M → ∃ f k, FnK X f k sp dvs ∧ RoomG k X.A ∧ Cls X.K C ∧ Meth X.K C m f
  hfn : ∀ x sp, g.Hs.lookup x = some sp → ∃ f k, FnKE X f k sp ∧ L2H.RoomH k X.A ∧ X.mg x = some (.ref f) ∧ PySem.W.keepIn X.K (.ref f) = true
  xv : ∀ a c d, S.xv = some (a, c, d) → EvC X a c d

theorem owB_cases {scope : Scope} {x : Str} (h : owB scope x = true) : scope.names.lookup x = some .local ∨ scope.names.lookup x = some .cell := by
  unfold owB at h
  split at h
  · exact .inl (by assumption)
  · exact .inr (by assumption)
  · cases h
/-- a comprehension's block -/
def SC.blk (S : SC) (scope : Scope) : SC := ⟨relS scope S.sc, owB scope, true, none⟩
theorem OkE.blk {g : GT} {S : SC} {E : L2.St → XK} {X : Cx} (O : OkE g S E X) (hcm : S.cm = true) (s : Shared) (H : Hp) (scope : Scope) (hk : scope.kind = .function) (C : Addr) (cl : List (Str × Addr)) (fp : List Addr) :
    OkE g (S.blk scope) EZ (X.blk s H scope (compEnvC scope cl C X.env) fp) where
  K := O.K
  N := O.N
  nd := O.nd
  sc := by
    have e := O.sc
    show _ = relS scope S.sc
    rw [← e]
    rfl
  ow := fun x h => by
    rcases owB_cases h with e | e
    · exact ⟨.inl (lookup_relS_keep (sc := X.env.scope) (by decide) e), .inr (lookup_relS_keep (sc := X.env.scope) (by decide) e)⟩
    · refine ⟨.inr (lookup_relS_keep (sc := X.env.scope) (by decide) e), .inl ?_⟩
      show (scope.names.lookup x == some .cell) = true
      rw [e]
      rfl
  kd := hk
  calm := fun _ => O.calm hcm
  un := O.un
  gd := fun _ => O.gd hcm
  ps := fun σ pins H s e s' I c => passN pins σ H s e s' I c
  fn := fun _ => O.fn hcm
  fnd := fun _ => O.fnd hcm
  cls := fun _ => O.cls hcm
  exc := fun _ => O.exc hcm
  bex := O.bex
  con := O.con
  bl := O.bl
  me := fun _ => O.me hcm
  hfn := O.hfn
  xv := fun a c d h => nomatch h
/-- .. while an exception is handled -/
def SC.blkH (S : SC) (scope : Scope) : SC := ⟨relS scope S.sc, owB scope, false, S.xv⟩
theorem OkE.blkH {g : GT} {S : SC} {E : L2.St → XK} {X : Cx} (O : OkE g S E X) (s : Shared) (H : Hp) (scope : Scope) (hk : scope.kind = .function) (C : Addr) (cl : List (Str × Addr)) (fp : List Addr) :
    OkE g (S.blkH scope) EZ (cxBlkH X s H scope (compEnvC scope cl C X.env) fp) where
  K := O.K
  N := O.N
  nd := O.nd
  sc := by
    have e := O.sc
    show _ = relS scope S.sc
    rw [← e]
    rfl
  ow := fun x h => by
    rcases owB_cases h with e | e
    · exact ⟨.inl (lookup_relS_keep (sc := X.env.scope) (by decide) e), .inr (lookup_relS_keep (sc := X.env.scope) (by decide) e)⟩
    · refine ⟨.inr (lookup_relS_keep (sc := X.env.scope) (by decide) e), .inl ?_⟩
      show (scope.names.lookup x == some .cell) = true
      rw [e]
      rfl
  kd := hk
  calm := fun z => Bool.noConfusion z
  un := O.un
  gd := fun z => Bool.noConfusion z
  ps := fun σ pins H s e s' I c => passN pins σ H s e s' I c
  fn := fun z => Bool.noConfusion z
  fnd := fun z => Bool.noConfusion z
  cls := fun z => Bool.noConfusion z
  exc := fun z => Bool.noConfusion z
  bex := O.bex
  con := O.con
  bl := O.bl
  me := fun z => Bool.noConfusion z
  hfn := O.hfn
  xv := fun a c d h => O.xv a c d h
end Rf
namespace Rf
open PySem L2 PySem.Spec PyProof.Rows

/-! ### subscripts, stores -/
/-- {None: x} -/
def isN1 : List (Option Expr) → Bool
  | [some (.Constant .none _ _)] => true
  | _ => false
def rIxD : R2 := fun x y H Q => ∃ a v, x = .ref a ∧ DGet H a y (some v) ∧ Q v H
theorem ix_dict {X : Cx} (hu : X.A.units + 1 < cLine) : IxR X rIxD := by
  intro value slice pins s σ H x y v u Q I rx ry h hs
  obtain ⟨a, w', rfl, g, q⟩ := h
  cases rx
  exact tail_any (dict_typeIs I g) PySem.F.slot_dict_getitem.lookup (d_getItem hu I g ry fun w2 s3 I3 rw' => ⟨w', H, I3, rw', q⟩) hs
@[irreducible] def rIxU (K : PySem.W.Frag) : R2 := fun x y H Q => rIx K x y H Q ∨ rIxD x y H Q
theorem ix_u {X : Cx} (hu : X.A.units + 1 < cLine) : IxR X (rIxU X.K) := by
  unfold rIxU
  exact ix_seq.or (ix_dict hu)
def rSetD : TSet := fun o i v H Q => ∃ a H4, o = .ref a ∧ DPut H a i v H4 ∧ Q H4
theorem set_dict {X : Cx} (hu : X.A.units + 1 < cLine) : PSet X rSetD := by
  intro pins s σ H o i v ov iv u Q I ro ri rv h
  obtain ⟨a, H4, rfl, g, q⟩ := h
  cases ro
  exact d_setItem hu I g ri rv fun s4 I4 => ⟨H4, I4, q⟩
@[irreducible] def rSetU : TSet := fun o i v H Q => rSetL o i v H Q ∨ rSetD o i v H Q ∨ rSetOdd o i v H Q
theorem set_u {X : Cx} (hu : X.A.units + 1 < cLine) : PSet X rSetU := by
  intro pins s σ H o i v ov iv u Q I ro ri rv h
  unfold rSetU at h
  rcases h with h | h | h
  · exact set_list pins s σ H o i v ov iv u Q I ro ri rv h
  · exact set_dict hu pins s σ H o i v ov iv u Q I ro ri rv h
  · exact set_odd hu pins s σ H o i v ov iv u Q I ro ri rv h
@[irreducible] def rSlU (K : PySem.W.Frag) : V → Option Int → Option Int → Hp → VK → Prop := fun x lo hi H Q => rSlL K x lo hi H Q ∨ (∃ z, x = .str z ∧ z.length ≤ sizeLine ∧ Q (.str (cutS z lo hi)) H) ∨ rSlT K x lo hi H Q

/-! ### built-in types' methods, by name -/
structure BM (K : PySem.W.Frag) (m : Str) where
  T : String
  id : String
  pa : PlainAttrs T
  slot : Slot T m id
  hty : typeOf (.builtin id) = pure (.type "method_descriptor")
  r : V → List V → Hp → VK → Prop
  ok : ∀ X : Cx, X.K = K → X.A.units + 100 < cLine → MtR X id r
def tMtL (K : PySem.W.Frag) (m : Str) (to : TE) (ta : TA) : List (BM K m) → TE
  | [] => fun _ _ _ => False
  | [b] => tBM K b.T b.r to ta
  | b :: c :: r => fun σ H Q => tBM K b.T b.r to ta σ H Q ∨ tMtL K m to ta (c :: r) σ H Q
def tMtL0 (K : PySem.W.Frag) (m : Str) (to : TE) : List (BM K m) → TE
  | [] => fun _ _ _ => False
  | [b] => tBM0 K b.T b.r to
  | b :: c :: r => fun σ H Q => tBM0 K b.T b.r to σ H Q ∨ tMtL0 K m to (c :: r) σ H Q
def mAppend (K) : BM K "append" := ⟨"list", "list.append", PySem.F.plainAttrs_list, PySem.F.slot_list_append, PySem.F.type_list_append, rAppend, fun _ _ _ => mt_append⟩
def mExtend (K) : BM K "extend" := ⟨"list", "list.extend", PySem.F.plainAttrs_list, PySem.F.slot_list_extend, PySem.F.type_list_extend, rExtend, fun _ _ _ => mt_extend⟩
def mLPop (K) : BM K "pop" := ⟨"list", "list.pop", PySem.F.plainAttrs_list, PySem.F.slot_list_pop, PySem.F.type_list_pop, fun x xs H Q => rPop x xs H Q ∨ rPopAt x xs H Q, fun _ _ _ => MtR.or mt_pop mt_popAt⟩
def mLClear (K) : BM K "clear" := ⟨"list", "list.clear", PySem.F.plainAttrs_list, PySem.F.slot_list_clear, PySem.F.type_list_clear, rClear, fun _ _ _ => mt_clear⟩
def mLReverse (K) : BM K "reverse" := ⟨"list", "list.reverse", PySem.F.plainAttrs_list, PySem.F.slot_list_reverse, PySem.F.type_list_reverse, rReverse, fun _ _ _ => mt_reverse⟩
def mLIndex (K) : BM K "index" := ⟨"list", "list.index", PySem.F.plainAttrs_list, PySem.F.slot_list_index, PySem.F.type_list_index, rIndex K, fun _ e _ => e ▸ mt_index⟩
def mDGet (K) : BM K "get" := ⟨"dict", "dict.get", PySem.F.plainAttrs_dict, PySem.F.slot_dict_get, PySem.F.type_dict_get, rDGetM, fun _ _ hu => mt_dget (by omega)⟩
def mDPop (K) : BM K "pop" := ⟨"dict", "dict.pop", PySem.F.plainAttrs_dict, PySem.F.slot_dict_pop, PySem.F.type_dict_pop, rDPopM, fun _ _ hu => mt_dpop (by omega)⟩
def mDClear (K) : BM K "clear" := ⟨"dict", "dict.clear", PySem.F.plainAttrs_dict, PySem.F.slot_dict_clear, PySem.F.type_dict_clear, rDClearM, fun _ _ _ => mt_dclear⟩
@[irreducible] def rJoinU (K : PySem.W.Frag) : V → List V → Hp → VK → Prop := fun x xs H Q => ∃ a p, ∃ ys : List Str, x = .str a ∧ xs = [.ref p] ∧ (SqL K H p (ys.map V.str) ∨ SqT K H p (ys.map V.str)) ∧ (ys.map (·.length)).sum + ys.length * a.length ≤ 16777216 ∧ Q (.str (Txt.join a ys)) H
theorem joinU_ok {X : Cx} : MtR X "str.join" (rJoinU X.K) := by
  unfold rJoinU
  exact mt_join
def mJoin (K) : BM K "join" := ⟨"str", "str.join", PySem.F.plainAttrs_str, PySem.F.slot_str_join, PySem.F.type_str_join, rJoinU K, fun _ e _ => e ▸ joinU_ok⟩
@[irreducible] def rInsU : V → List V → Hp → VK → Prop := fun x vs H Q => ∃ (l : Addr) (xs : List V) (i : Int) (y : V), x = .ref l ∧ vs = [.int i, y] ∧ H l = some (.lst xs) ∧ xs.length < sizeLine ∧ 0 ≤ i ∧ i < 2 ^ 63 ∧ Q .non (upd H l (.lst (xs.take i.toNat ++ [y] ++ xs.drop i.toNat)))
theorem insU_ok {X : Cx} : MtR X "list.insert" rInsU := by
  unfold rInsU
  exact mt_insert
def mInsert (K) : BM K "insert" := ⟨"list", "list.insert", PySem.F.plainAttrs_list, PySem.F.slot_list_insert, PySem.F.type_list_insert, rInsU, fun _ _ _ => insU_ok⟩
def mLRemove (K) : BM K "remove" := ⟨"list", "list.remove", PySem.F.plainAttrs_list, PySem.F.slot_list_remove, PySem.F.type_list_remove, rRemU, fun _ _ _ => mt_remU⟩
def mDUpd (K) : BM K "update" := ⟨"dict", "dict.update", PySem.F.plainAttrs_dict, PySem.F.slot_dict_update, PySem.F.type_dict_update, rDUpdM, fun _ _ _ => mt_dupd⟩
@[irreducible] def rSIdxU : V → List V → Hp → VK → Prop := fun x xs H Q => ∃ a b i rest, x = .str a ∧ xs = [.str b] ∧ Builtin.Str.occurrences a b 0 a.length 1 = i :: rest ∧ Q (.int (i : Nat)) H
theorem sidxU_ok {X : Cx} : MtR X "str.index" rSIdxU := by
  unfold rSIdxU
  exact mt_sindex
def mSIndex (K) : BM K "index" := ⟨"str", "str.index", PySem.F.plainAttrs_str, PySem.F.slot_str_index, PySem.F.type_str_index, rSIdxU, fun _ _ _ => sidxU_ok⟩
def bmt (K : PySem.W.Frag) (m : Str) : List (BM K m) :=
  if h : m = "append" then [h ▸ mAppend K] else if h : m = "extend" then [h ▸ mExtend K] else if h : m = "pop" then [h ▸ mLPop K, h ▸ mDPop K] else if h : m = "clear" then [h ▸ mLClear K, h ▸ mDClear K]
  else if h : m = "reverse" then [h ▸ mLReverse K] else if h : m = "index" then [h ▸ mLIndex K, h ▸ mSIndex K] else if h : m = "get" then [h ▸ mDGet K] else if h : m = "join" then [h ▸ mJoin K] else if h : m = "insert" then [h ▸ mInsert K] else if h : m = "update" then [h ▸ mDUpd K] else if h : m = "remove" then [h ▸ mLRemove K] else []

/-! ### the compiler: expressions -/
def nameK (sc : Scope) (x : Str) : Option Bool := match sc.names.lookup x with
  | some .local => some true
  | some .cell => some true
  | some .free => some true
  | some .globalImplicit => some false
  | _ => none
def badName (x : Str) : Bool := (x == ("__debug__" : Str)) || (x == ("__classdict__" : Str))
def cName (g : GT) (sc : Scope) (x : Str) : Option TE :=
  if badName x then none else match nameK sc x with
  | some true => (ixO g.N x).map tV
  | some false => (match g.G.lookup x with
    | some (.con v) => some (tC v)
    | some .bl => (tyNames.lookup x).map fun T => tC (.ty T)
    | _ => none)
  | none => none
def cConst : Const → Option TE
  | .int i => some (tC (.int i))
  | .bool b => some (tC (.bl b))
  | .none => some (tC .non)
  | .str x => some (tC (.str x))
  | _ => none
def orE : List TE → TE
  | [] => fun _ _ _ => False
  | [a] => a
  | a :: b :: r => fun σ H Q => a σ H Q ∨ orE (b :: r) σ H Q
/-- isinstance in an except suite: of what is no exception, of the exception -/
@[irreducible] def rIsi2 (K : PySem.W.Frag) (a : Addr) (c : Value) (d : Option Addr) : List V → Hp → VK → Prop := fun xs H Q => rIsiU K xs H Q ∨ rIsX K a c d xs H Q
def cCallN (g : GT) (S : SC) (E : L2.St → XK) (x : Str) (no : Bool) (ta : TA) : Option TE :=
  if badName x then none else match nameK S.sc x with
  | some false => (match S.xv, g.G.lookup x with
    | none, some (.fn sp dvs) => if S.cm then some (tCallSD sp dvs E ta) else none
    | none, some (.cls C sp dvs) => if S.cm then some (tMakeS C sp dvs E ta) else none
    | none, some (.fnd sp _) => if S.cm && !no then some (tCallSD sp [] E ta) else none
    | none, some .bl => if no then none else if x = "repr" ∧ S.cm = true then some (tCB (rRepr g.K) ta) else (blt g.K x).bind fun b => if S.cm || b.cool then some (tCB b.r ta) else none
    | some (a, c, d), some .bl => if no then none else if x = "isinstance" then some (tCB (rIsi2 g.K a c d) ta) else if x = "all" then some (tCB (rAll g.K) ta) else (blt g.K x).bind fun b => if S.cm || b.cool then some (tCB b.r ta) else none
    | some (a, c, d), none => if no then none else (g.Hs.lookup x).map fun sp => tCallE (sp a c d) ta
    | _, _ => none)
  | _ => none
/-- f(e, .., k = v) -/
def cCallK (g : GT) (S : SC) (E : L2.St → XK) (x kn : Str) (ta tk : TA) : Option TE :=
  if badName x then none else match nameK S.sc x with
  | some false => (match S.xv, g.G.lookup x with
    | none, some (.fnd _ kw) => if S.cm then (kw.lookup kn).map fun spk => tCallKW spk E ta tk else none
    | _, _ => none)
  | _ => none
def mOf (g : GT) (m : Str) : List (Addr × Sp × List V) := g.M.filterMap fun p => if p.1 = m then some p.2 else none
def cCallM (g : GT) (cm : Bool) (E : L2.St → XK) (m : Str) (no : Bool) (line : Bool) (to : TE) (ta : TA) : Option TE := match mOf g m with
  | c :: cs => if line && cm then some (orE ((c :: cs).map fun c => tMethS c.1 m c.2.1 c.2.2 E to ta)) else none
  | [] => match bmt g.K m with
    | [] => none
    | b :: r => if line then (if no then some (tMtL0 g.K m to (b :: r)) else some (tMtL g.K m to ta (b :: r))) else none
def tNotT (t : TT) : TE := fun σ H Q => t σ H fun b H1 => Q (.bl (!b)) H1
def ownOf (N : List Str) (scope : Scope) : List (Str × Nat) := scope.names.filterMap fun p => match p.2 with
  | .local => (ixO N p.1).map fun i => (p.1, i)
  | .cell => (ixO N p.1).map fun i => (p.1, i)
  | _ => none
def cTgt (g : GT) (S : SC) : Expr → Option TG
  | .Name x _ => if S.ow x then (ixO g.N x).map gName else none
  | _ => none
def cTgts (g : GT) (S : SC) : List Expr → Option TGs
  | [] => some gNil
  | e :: r => (cTgt g S e).bind fun t => (cTgts g S r).map fun u => gCons t u
/-- a name, or names in a tuple; a tuple of such -/
def cTgt2 (g : GT) (S : SC) : Expr → Option TG
  | .Tuple es _ _ => if es.all noStar && S.cm then (cTgts g S es).map fun t => gTup g.K es.length t else none
  | e => cTgt g S e
def cTgts2 (g : GT) (S : SC) : List Expr → Option TGs
  | [] => some gNil
  | e :: r => (cTgt2 g S e).bind fun t => (cTgts2 g S r).map fun u => gCons t u
def cTg (g : GT) (S : SC) : Expr → Option TG
  | .Name x p => cTgt g S (.Name x p)
  | .Tuple es _ _ => if es.all noStar && S.cm then (cTgts2 g S es).map fun t => gTup g.K es.length t else none
  | _ => none
/-- names in a tuple, while an exception is handled -/
def cTgH (g : GT) (S : SC) : Expr → Option TG
  | .Tuple es _ _ => if es.all noStar && S.xv.isSome then (cTgts g S es).map fun t => gTup g.K es.length t else none
  | _ => none
/-- (a, b, ..) = a tuple or a list of that length -/
def gTL (K : PySem.W.Frag) (n : Nat) (t : TGs) : TG := fun v σ H Q => gTup K n t v σ H Q ∨ gUnl K n t v σ H Q
def cTgL (g : GT) (S : SC) (es : List Expr) : Option TG := if es.all noStar && S.cm then (cTgts2 g S es).map fun t => gTL g.K es.length t else none
def iSeq (K : PySem.W.Frag) (te : TE) : TI := fun σ H R => te σ H fun x H1 => match x with
  | .ref a => (∃ xs, SqL K H1 a xs ∧ R (Itl K a) H1) ∨ ∃ xs, SqT K H1 a xs ∧ R (Itt K a) H1
  | .str x => R (Its x) H1
  | _ => False
def glb (g : GT) (sc : Scope) (x : Str) : Bool := (match nameK sc x with | some false => true | _ => false) && (match g.G.lookup x with | some .bl => true | _ => false)

def cF (f : Expr → Option TT) : List Expr → Option TT
  | [] => some tYes
  | [c] => f c
  | _ => none
def cP (f : Expr → Option TE) : List (Option Expr) → List Expr → Option (List (TE × TE))
  | [], [] => some []
  | some k :: ks, v :: vs => (f k).bind fun tk => (f v).bind fun tv => (cP f ks vs).map fun r => (tk, tv) :: r
  | _, _ => none
def cO (f : Expr → Option TE) : Option Expr → Option TO
  | none => some tNoPart
  | some e => (f e).map tPart
def cA (f : Expr → Option TE) : List Expr → Option TA
  | [] => some tNil
  | e :: es => if noStar e then (f e).bind fun te => (cA f es).map fun ta => tCons te ta else none
def isCallE : Expr → Bool
  | .Call .. => true
  | _ => false
def maybeD : Expr → Bool
  | .List .. => false
  | .Tuple .. => false
  | .BinOp .. => false
  | .Constant .. => false
  | _ => true
/-- of a call: a dict told is a new one -/
def seqC (K : PySem.W.Frag) (t : TE) : List (Bool × TI) := [(false, iSeq K t), (false, iKeys (tFrz t))]
def seqOr (K : PySem.W.Frag) (b : Bool) (t : TE) : List (Bool × TI) := if b then [(false, iSeq K t), (true, iKeys t)] else [(false, iSeq K t)]
/-- what is walked: the ways to read it; true: under a lock -/
def cI (g : GT) (S : SC) (f : Expr → Option TE) (tg : Expr) : Expr → Option (List (Bool × TI))
  | .Call (.Name x p) [a] [⟨some n, .Constant (.int k) tk cp, kp⟩] q =>
    if x = "enumerate" ∧ n = "start" ∧ 0 ≤ k ∧ k < 1000 then (if glb g S.sc "enumerate" then (match tg with
      | .Tuple _ _ _ => (cA f [a]).map fun t => [(false, iEnumSt g.K k t)]
      | _ => none) else none) else none
  | .Call (.Name x p) es [] q =>
    if x = "range" then (if glb g S.sc x then (match es with
      | [a] => (cA f [a]).map fun t => [(false, iRng1 t)]
      | [a, b] => (cA f [a, b]).map fun t => [(false, iRng2 t)]
      | _ => none) else none)
    else if x = "enumerate" then (if glb g S.sc x then (match es, tg with
      | [a], .Tuple _ _ _ => (cA f [a]).map fun t => [(false, iEnumU g.K t), (true, iEnumU g.K t)]
      | _, _ => none) else none)
    else if x = "zip" then (if glb g S.sc x then (match es, tg with
      | [a, b], .Tuple _ _ _ => (cA f [a, b]).map fun t => [(false, iZip g.K t)]
      | [a, b, c], .Tuple _ _ _ => (cA f [a, b, c]).map fun t => [(false, iZip3 g.K t)]
      | _, _ => none) else none)
    else (f (.Call (.Name x p) es [] q)).map (seqC g.K)
  | .Call (.Attribute o m ap) [] [] q =>
    if m = "values" then (if noSup o && (ap.endLine == q.line) then (f o).map fun t => [(true, iValsU t)] else none)
    else if m = "items" then (if noSup o && (ap.endLine == q.line) then (match tg with
      | .Tuple _ _ _ => (f o).map fun t => if isCallE o then [(false, iItemsU (tFrz t))] else [(true, iItemsU t)]
      | _ => none) else none)
    else (f (.Call (.Attribute o m ap) [] [] q)).map (seqC g.K)
  | e => if isCallE e then (f e).map (seqC g.K) else (f e).map (seqOr g.K (maybeD e))
/-- .. while an exception is handled -/
def cIH (g : GT) (S : SC) (f : Expr → Option TE) (tg : Expr) : Expr → Option (List (Bool × TI))
  | .Call (.Name x p) [a, b] [] q => if x = "zip" then (if glb g S.sc x then (match tg with
      | .Tuple _ _ _ => (cA f [a, b]).map fun t => [(false, iZip g.K t)]
      | _ => none) else none) else none
  | _ => none
def orS : List TS → TS
  | [] => fun _ _ _ => False
  | [a] => a
  | a :: b :: r => fun D σ H => a D σ H ∨ orS (b :: r) D σ H
/-- a for over what is walked; a list gathered over it -/
@[irreducible] def forU (J : It) (g : TG) (tb : TS) (D : Ends) (σ : L2.St) (H1 : Hp) : Prop := ∃ W : Nat → Nat → L2.St → Hp → Prop, (∃ m, W 0 m σ H1) ∧ ∀ i m σ H, W i m σ H →
  (J.stop i H ∧ D.nx σ H) ∨ (J.go i H ∧ ∃ N : L2.St → Hp → Prop, (∀ σ' H', N σ' H' → ∃ m', m' < m ∧ W (i + 1) m' σ' H') ∧ ∀ x H', J.yld i H x H' → g x σ H' fun σ2 H2 => tb { D with nx := N, ct := N, bk := D.nx } σ2 H2)
@[irreducible] def lcU (J : It) (g : TG) (tt : TT) (te : TE) (vs : List Nat) (σ : L2.St) (H1 : Hp) (Q : VK) : Prop := ∀ D, H1 D = none → ∃ W : Nat → Nat → Hp → Prop, (∃ m, W 0 m (upd H1 D (.lst []))) ∧ ∀ i m H, W i m H →
  (J.stop i H ∧ Q (.ref D) H) ∨ (J.go i H ∧ ∃ Nx : Hp → Prop, (∀ H', Nx H' → ∃ m', m' < m ∧ W (i + 1) m' H') ∧ ∀ x H', J.yld i H x H' → g x (wipe σ vs) H' fun σ2 H2 => wipe σ2 vs = wipe σ vs ∧ tt σ2 H2 fun b H3 =>
    cnd b (te σ2 H3 fun y H4 => ∃ acc, H4 D = some (.lst acc) ∧ acc.length < sizeLine ∧ Nx (upd H4 D (.lst (acc ++ [y])))) (Nx H3))
def tForU (wi : TI) (g : TG) (tb : TS) : TS := fun D σ H => wi σ H fun J H1 => forU J g tb D σ H1
def tLcU (wi : TI) (g : TG) (tt : TT) (te : TE) (vs : List Nat) : TE := fun σ H Q => wi σ H fun J H1 => lcU J g tt te vs σ H1 Q
theorem cnd_if {b : Bool} {A B : Prop} : cnd b A B = if b = true then A else B := by
  cases b
  · rw [cnd_f]; rfl
  · rw [cnd_t]; rfl
theorem tForU_eq : tForU = tFor := by
  funext wi g tb D σ H
  unfold tForU forU
  rfl
theorem tLcU_eq : tLcU = tLc := by
  funext wi g tt te vs σ H Q
  unfold tLcU lcU
  simp only [cnd_if]
  rfl
def lcE (ws : List (Bool × TI)) (g : TG) (tt : TT) (te : TE) (vs : List Nat) : TE := orE (ws.map fun w => if w.1 then tLockE (tLcU w.2 g tt te vs) else tLcU w.2 g tt te vs)
def lcS (ws : List (Bool × TI)) (g : TG) (tt : TT) (te : TE) (vs : List Nat) (i : Nat) : TS := orS (ws.map fun w => if w.1 then tLock (tAsg (tLcU w.2 g tt te vs) (gName i)) else tAsg (tLcU w.2 g tt te vs) (gName i))
def forS (ws : List (Bool × TI)) (g : TG) (tb : TS) : TS := orS (ws.map fun w => if w.1 then tLock (tForU w.2 g tb) else tForU w.2 g tb)
/-- sum(o.values()) -/
def sumV (x : Str) : List Expr → Option Expr
  | [.Call (.Attribute o m ap) [] [] mp] => if x = "sum" ∧ m = "values" ∧ noSup o = true ∧ (ap.endLine == mp.line) = true then some o else none
  | _ => none
theorem sumV_ok {x : Str} {es : List Expr} {o : Expr} (h : sumV x es = some o) : x = "sum" ∧ ∃ ap mp, es = [.Call (.Attribute o "values" ap) [] [] mp] ∧ noSup o = true ∧ (ap.endLine == mp.line) = true := by
  unfold sumV at h
  split at h
  · split at h
    · rename_i c
      cases h
      obtain ⟨c1, c2, c3, c4⟩ := c
      subst c2
      exact ⟨c1, _, _, rfl, c3, c4⟩
    · cases h
  · cases h
/-- forms of their own -/
def orO {α : Type} : Option α → Option α → Option α
  | some t, _ => some t
  | none, o => o
theorem orO_ok {α : Type} {a b : Option α} {t : α} (h : orO a b = some t) : a = some t ∨ b = some t := by
  cases a with
  | none => exact .inr h
  | some x => exact .inl h
@[irreducible] def tItems (te : TE) : TE := tLItems te
@[irreducible] def tLRg1 (ta : TE) : TE := tLstRg (tRg1 ta)
@[irreducible] def tLRg2 (ta tb : TE) : TE := tLstRg (tRg2 ta tb)
@[irreducible] def tRev (K : PySem.W.Frag) (te : TE) : TE := tRevL K te
@[irreducible] def tLZ (K : PySem.W.Frag) (ta : TA) : TE := tLZip K ta
@[irreducible] def tStp (K : PySem.W.Frag) (te tk : TE) : TE := tStepL K te tk
def spC (g : GT) (S : SC) (f : Expr → Option TE) : Expr → Option TE
  | .Call (.Name x _) [.Call (.Attribute o m ap) [] [] q] [] _ => if x = "list" ∧ m = "items" ∧ noSup o = true ∧ (ap.endLine == q.line) = true ∧ glb g S.sc "list" = true ∧ S.cm = true then (f o).map tItems else none
  | .Call (.Name x _) [.Call (.Name y _) [a] [] _] [] _ => if x = "list" ∧ y = "range" ∧ noStar a = true ∧ glb g S.sc "list" = true ∧ glb g S.sc "range" = true ∧ S.cm = true then (f a).map tLRg1 else none
  | .Call (.Name x _) [.Call (.Name y _) [a, b] [] _] [] _ => if x = "list" ∧ y = "range" ∧ noStar a = true ∧ noStar b = true ∧ glb g S.sc "list" = true ∧ glb g S.sc "range" = true ∧ S.cm = true then (f a).bind fun ta => (f b).map fun tb => tLRg2 ta tb
    else if x = "list" ∧ y = "zip" ∧ glb g S.sc "list" = true ∧ glb g S.sc "zip" = true ∧ S.cm = true then (cA f [a, b]).map fun ta => tLZ g.K ta else none
  | .Call (.Attribute o m ap) [e, e2] [] p => if m = "setdefault" ∧ noSup o = true ∧ (ap.endLine == p.line) = true ∧ noStar e = true ∧ noStar e2 = true then (f o).bind fun to => (f e).bind fun ta => (f e2).map fun tb => tDSetd to ta tb else none
  | .Subscript e (.Slice none none (some (.UnaryOp .USub (.Constant (.int 1) _ _) _)) _) _ => (f e).map (tRev g.K)
  | .Subscript e (.Slice none none (some k) _) _ => (f e).bind fun te => (f k).map fun tk => tStp g.K te tk
  | _ => none
mutual
def cE (g : GT) : Nat → SC → (L2.St → XK) → Expr → Option TE
  | 0, _, _, _ => none
  | n + 1, S, E, e => match e with
    | .Name x _ => cName g S.sc x
    | .Constant c _ _ => cConst c
    | .BinOp a op b _ => (rBin g.K op).bind fun r => (cE g n S E a).bind fun ta => (cE g n S E b).map fun tb => tOp r ta tb
    | .UnaryOp op a _ => (match op with
      | .USub => (cE g n S E a).map fun ta => tUn rNegU ta
      | .Not => (cE g n S E a).map fun ta => tNotU ta
      | _ => none)
    | .BoolOp op vs p => (match vs with
      | [a] => cE g n S E a
      | a :: b :: r => (cE g n S E a).bind fun ta => (cE g n S E (.BoolOp op (b :: r) p)).map fun tb => (match op with
        | .And => tAndU ta tb
        | .Or => tOrU ta tb)
      | [] => none)
    | .Compare a ops bs _ => (match ops, bs with
      | [op], [b] => if noSet b then (rCmp g.K op).bind fun r => (cE g n S E a).bind fun ta => (cE g n S E b).map fun tb => tOp r ta tb else none
      | [op, op'], [b, c] => if noSet c then (rCmp g.K op).bind fun r => (rCmp g.K op').bind fun r' => (cE g n S E a).bind fun ta => (cE g n S E b).bind fun tb => (cE g n S E c).map fun tc => tChU r r' ta tb tc else none
      | _, _ => none)
    | .Call f es kw p => orO (spC g S (cE g n S E) (.Call f es kw p)) (match f, kw with
      | .Name x _, [] => (match sumV x es with
        | some o => if glb g S.sc "sum" && S.cm then (cE g n S E o).map tSumVals else none
        | none => (cA (cE g n S E) es).bind fun ta => cCallN g S E x es.isEmpty ta)
      | .Name x _, [⟨some kn, ke, _⟩] => if es.isEmpty then none else (cA (cE g n S E) es).bind fun ta => (cE g n S E ke).bind fun tk => cCallK g S E x kn ta (tCons tk tNil)
      | .Attribute o m ap, [] => if noSup o && decide (es.length < 20) then (cE g n S E o).bind fun to => (cA (cE g n S E) es).bind fun ta => cCallM g S.cm E m es.isEmpty (ap.endLine == p.line) to ta else none
      | _, _ => none)
    | .Attribute o f _ => if noSup o then (cE g n S E o).map fun to => (match S.xv with
      | none => tFld g.K to f
      | some (a, c, d) => fun σ H Q => tFld g.K to f σ H Q ∨ tFldX g.K a c d to f σ H Q) else none
    | .Subscript a b p => orO (spC g S (cE g n S E) (.Subscript a b p)) (match b with
      | .Slice lo hi st _ => (match st with
        | none => (cE g n S E a).bind fun ta => (cO (cE g n S E) lo).bind fun tl => (cO (cE g n S E) hi).map fun th => tSl (rSlU g.K) ta tl th
        | some _ => none)
      | b => (cE g n S E a).bind fun ta => (cE g n S E b).map fun tb => tOp (rIxU g.K) ta tb)
    | .List es _ => (cA (cE g n S E) es).map tLst
    | .Tuple es _ _ => (cA (cE g n S E) es).map tTup
    | .Dict ks vs _ => (match ks, vs with
      | [], [] => some fun σ H Q => tDNewK σ H Q ∨ tDNewT σ H Q
      | k :: ks, v :: vs => if (k :: ks).all (·.isSome) && decide ((k :: ks).length = (v :: vs).length) && decide ((k :: ks).length ≤ 15) then (cP (cE g n S E) (k :: ks) (v :: vs)).map (if isN1 (k :: ks) then tDispN else tDisp) else none
      | _, _ => none)
    | .IfExp c a b _ => (cT g n S E c).bind fun tc => (cE g n S E a).bind fun ta => (cE g n S E b).map fun tb => uIfE tc ta tb
    | .ListComp elt gens scope _ => (match gens with
      | [⟨tg, iter, ifs, k⟩] =>
        if blkC g.N S.sc scope (ownOf g.N scope) && noSet iter && (k == 0) && S.cm then
          (cI g S (cE g n S E) tg iter).bind fun wi => (cTg g (S.blk scope) tg).bind fun tt => (cF (cT g n (S.blk scope) EZ) ifs).bind fun tf =>
            (cE g n (S.blk scope) EZ elt).map fun te => lcE wi tt tf te ((ownOf g.N scope).map (·.2))
        else if blkC g.N S.sc scope (ownOf g.N scope) && noSet iter && (k == 0) && S.xv.isSome then
          (cIH g S (cE g n S E) tg iter).bind fun wi => (cTgH g (S.blkH scope) tg).bind fun tt => (cF (cT g n (S.blkH scope) EZ) ifs).bind fun tf =>
            (cE g n (S.blkH scope) EZ elt).map fun te => lcE wi tt tf te ((ownOf g.N scope).map (·.2))
        else none
      | _ => none)
    | _ => none
def cT (g : GT) : Nat → SC → (L2.St → XK) → Expr → Option TT
  | 0, _, _, _ => none
  | n + 1, S, E, e => match e with
    | .UnaryOp op a _ => (match op with
      | .Not => (cT g n S E a).map tNot
      | _ => none)
    | .BoolOp op vs p => (match vs with
      | [a] => cT g n S E a
      | a :: b :: r => (cT g n S E a).bind fun ta => (cT g n S E (.BoolOp op (b :: r) p)).map fun tb => (match op with
        | .And => uAnd ta tb
        | .Or => uOr ta tb)
      | [] => none)
    | .Compare a ops bs _ => (match ops, bs with
      | [op], [b] => if noSet b then (rCmp g.K op).bind fun r => (cE g n S E a).bind fun ta => (cE g n S E b).map fun tb => tBo (tOp r ta tb) else none
      | [op, op'], [b, c] => if noSet c then (rCmp g.K op).bind fun r => (rCmp g.K op').bind fun r' => (cE g n S E a).bind fun ta => (cE g n S E b).bind fun tb => (cE g n S E c).map fun tc => tBo (tChU r r' ta tb tc) else none
      | _, _ => none)
    | .IfExp .. => none
    | e => (cE g n S E e).map (tTru g.K)
end
end Rf
namespace Rf
open PySem L2 PySem.Spec PyProof.Rows

theorem badName_ok {x : Str} (h : badName x = false) : (x == ("__debug__" : Str)) = false ∧ (x == ("__classdict__" : Str)) = false := by
  unfold badName at h
  exact Bool.or_eq_false_iff.mp h
theorem nameK_own {sc : Scope} {x : Str} (h : nameK sc x = some true) : Vis sc x := by
  unfold nameK at h
  split at h
  · exact .inl (by assumption)
  · exact .inr (.inl (by assumption))
  · exact .inr (.inr (by assumption))
  · cases h
  · cases h
theorem nameK_glob {sc : Scope} {x : Str} (h : nameK sc x = some false) : sc.names.lookup x = some .globalImplicit := by
  unfold nameK at h
  split at h
  · cases h
  · cases h
  · cases h
  · assumption
  · cases h
section
variable {g : GT} {S : SC} {E : L2.St → XK} {X : Cx}
theorem OkE.gl (O : OkE g S E X) {x : Str} (h : nameK S.sc x = some false) : Gl X x := by
  have e := nameK_glob h
  rw [← O.sc] at e
  exact e
theorem cName_ok (O : OkE g S E X) {x : Str} {pos : Pos} {t : TE} (h : cName g S.sc x = some t) : PE X (.Name x pos) t := by
  unfold cName at h
  cases hb : badName x with
  | true => rw [hb] at h; cases h
  | false =>
    rw [hb] at h
    obtain ⟨hd, hc⟩ := badName_ok hb
    cases hk : nameK S.sc x with
    | none => rw [hk] at h; cases h
    | some b =>
      rw [hk] at h
      cases b with
      | true =>
        obtain ⟨i, hi, rfl⟩ := Option.map_eq_some_iff.mp (show (ixO g.N x).map tV = some t from h)
        have v := nameK_own hk
        rw [← O.sc] at v
        have hN := ixO_ok hi
        rw [← O.N] at hN
        exact pe_v hN v hd hc
      | false =>
        have hg := O.gl hk
        have h2 : (match g.G.lookup x with
          | some (.con v) => some (tC v)
          | some .bl => (tyNames.lookup x).map fun T => tC (.ty T)
          | _ => none) = some t := h
        cases hG : g.G.lookup x with
        | none => rw [hG] at h2; cases h2
        | some k =>
          rw [hG] at h2
          cases k with
          | exc C sp dvs => cases h2
          | bex C => cases h2
          | fnd _ _ => cases h2
          | con v =>
            cases h2
            obtain ⟨u, hu, r⟩ := O.con x v hG
            exact pe_glob hg hu r hd
          | bl =>
            obtain ⟨T, hT, rfl⟩ := Option.map_eq_some_iff.mp (show (tyNames.lookup x).map (fun T => tC (.ty T)) = some t from h2)
            have m := PySem.mem_of_lookup hT
            have ok := List.all_eq_true.mp tyNames_ok _ m
            obtain ⟨o1, o2⟩ := Bool.and_eq_true_iff.mp ok
            exact pe_bltn (v := .ty T) hg (O.bl x hG) (of_decide_eq_true o1) rfl (of_decide_eq_true o2) hd
          | fn _ _ => cases h2
          | cls _ _ _ => cases h2
theorem cConst_ok {c : Const} {j : Nat} {pos : Pos} {t : TE} (h : cConst c = some t) : PE X (.Constant c j pos) t := by
  cases c <;> first | cases h | skip
  · exact pe_non
  · exact pe_bl
  · exact pe_int
  · exact pe_str
theorem cA_ok {f : Expr → Option TE} (hf : ∀ e t, f e = some t → PE X e t) : ∀ {es : List Expr} {t : TA}, cA f es = some t → PA X es t ∧ es.all noStar = true ∧ (es = [] → t = tNil)
  | [], t, h => by
    cases h
    exact ⟨pa_nil, rfl, fun _ => rfl⟩
  | e :: es, t, h => by
    unfold cA at h
    cases hs : noStar e with
    | false => rw [hs] at h; cases h
    | true =>
      rw [hs] at h
      obtain ⟨te, h1, h2⟩ := Option.bind_eq_some_iff.mp (show ((f e).bind fun te => (cA f es).map fun ta => tCons te ta) = some t from h)
      obtain ⟨ta, h3, rfl⟩ := Option.map_eq_some_iff.mp h2
      obtain ⟨q1, q2, _⟩ := cA_ok hf h3
      exact ⟨pa_cons (hf e te h1) q1 (star_cons hs), by simp [hs, q2], fun z => nomatch z⟩
theorem cO_ok {f : Expr → Option TE} (hf : ∀ e t, f e = some t → PE X e t) {e : Option Expr} {t : TO} (h : cO f e = some t) : PO X e t := by
  cases e with
  | none => cases h; exact po_none
  | some e =>
    obtain ⟨te, h1, rfl⟩ := Option.map_eq_some_iff.mp (show (f e).map tPart = some t from h)
    exact po_some (hf e te h1)
theorem isi2_ok {X : Cx} {a : Addr} {c : Value} {d : Option Addr} (ev : EvC X a c d) : CallR X (.builtin "isinstance") (rIsi2 X.K a c d) := by
  unfold rIsi2
  exact callOr isiU_ok (call_isX ev)
theorem bl_ok (O : OkE g S E X) {x : Str} {p pos : Pos} {es : List Expr} {ta : TA} {t : TE} (hs : es.all noStar = true) (hg : Gl X x) (hd : (x == ("__debug__" : Str)) = false) (ha : PA X es ta) (hG : g.G.lookup x = some .bl)
    (h : (if es.isEmpty then none else (blt g.K x).bind fun b => if S.cm || b.cool then some (tCB b.r ta) else none) = some t) : PE X (.Call (.Name x p) es [] pos) t := by
  cases es with
  | nil => cases h
  | cons e es =>
    obtain ⟨s1, s2⟩ := Bool.and_eq_true_iff.mp (show (noStar e && es.all noStar) = true from hs)
    obtain ⟨b, hbl, h3⟩ := Option.bind_eq_some_iff.mp (show ((blt g.K x).bind fun b => if S.cm || b.cool then some (tCB b.r ta) else none) = some t from h)
    by_cases hc : (S.cm || b.cool) = true
    · rw [if_pos hc] at h3
      cases h3
      have ok := b.ok X O.K (fun z => O.calm (by rw [z, Bool.or_false] at hc; exact hc)) O.un
      have bo := b.boot
      rcases b.kind with ⟨id, e1⟩ | ⟨T, e1⟩
      · rw [e1] at ok bo
        exact pe_callB ok hg (O.bl x hG) bo ha b.nm hd (star_cons s1) (star_none s2)
      · rw [e1] at ok bo
        exact pe_callTy ok hg (O.bl x hG) bo ha b.nm hd (star_cons s1) (star_none s2)
    · rw [if_neg hc] at h3
      cases h3
theorem cCallN_ok (O : OkE g S E X) {x : Str} {p pos : Pos} {es : List Expr} {ta : TA} {t : TE} (hs : es.all noStar = true) (hz : es = [] → ta = tNil) (ha : PA X es ta) (h : cCallN g S E x es.isEmpty ta = some t) : PE X (.Call (.Name x p) es [] pos) t := by
  unfold cCallN at h
  cases hb : badName x with
  | true => rw [hb] at h; cases h
  | false =>
    rw [hb] at h
    obtain ⟨hd, hc⟩ := badName_ok hb
    rw [if_neg (by simp)] at h
    split at h
    · rename_i hk
      have hg := O.gl hk
      split at h
      · rename_i sp dvs hx hG
        by_cases cm : S.cm = true
        · rw [if_pos cm] at h
          cases h
          obtain ⟨f, k, ⟨fd, ps, ds, F, b, d⟩, hr, hm, kp⟩ := O.fn cm x sp dvs hG
          cases es with
          | nil =>
            rw [hz rfl]
            exact pe_callSD0 F hr hg hm kp b d O.ps hd
          | cons e es =>
            obtain ⟨s1, s2⟩ := Bool.and_eq_true_iff.mp (show (noStar e && es.all noStar) = true from hs)
            exact pe_callSDG F hr hg hm kp b d O.ps ha hd (star_cons s1) (star_none s2)
        · rw [if_neg cm] at h
          cases h
      · rename_i C sp dvs hx hG
        by_cases cm : S.cm = true
        · rw [if_pos cm] at h
          cases h
          obtain ⟨f, k, ⟨fd, ps, ds, F, b, d⟩, hr, hm, mk⟩ := O.cls cm x C sp dvs hG
          cases es with
          | nil =>
            rw [hz rfl]
            exact pe_makeSD0 mk F hr hg hm b d O.ps hd
          | cons e es =>
            obtain ⟨s1, s2⟩ := Bool.and_eq_true_iff.mp (show (noStar e && es.all noStar) = true from hs)
            exact pe_makeSD mk F hr hg hm b d O.ps ha hd (star_cons s1) (star_none s2)
        · rw [if_neg cm] at h
          cases h
      · rename_i sp kw hx hG
        by_cases cm : (S.cm && !es.isEmpty) = true
        · rw [if_pos cm] at h
          cases h
          obtain ⟨cm, hn⟩ := Bool.and_eq_true_iff.mp cm
          obtain ⟨f, k, ⟨fd, ps, sp0, F, fi⟩, hr, hm, kp⟩ := O.fnd cm x sp kw hG
          cases es with
          | nil => cases hn
          | cons e es =>
            obtain ⟨s1, s2⟩ := Bool.and_eq_true_iff.mp (show (noStar e && es.all noStar) = true from hs)
            exact pe_callD F hr hg hm kp fi O.ps ha hd (star_cons s1) (star_none s2)
        · rw [if_neg cm] at h
          cases h
      · rename_i hx hG
        cases es with
        | nil => cases h
        | cons e es =>
          have h2 : (if x = "repr" ∧ S.cm = true then some (tCB (rRepr g.K) ta) else (blt g.K x).bind fun b => if S.cm || b.cool then some (tCB b.r ta) else none) = some t := h
          by_cases hx2 : x = "repr" ∧ S.cm = true
          · rw [if_pos hx2] at h2
            cases h2
            obtain ⟨hx3, cm⟩ := hx2
            subst hx3
            obtain ⟨s1, s2⟩ := Bool.and_eq_true_iff.mp (show (noStar e && es.all noStar) = true from hs)
            rw [← O.K]
            exact pe_callB (cr_repr (O.gd cm) O.un) hg (O.bl _ hG) boot_repr ha (by decide) hd (star_cons s1) (star_none s2)
          · rw [if_neg hx2] at h2
            exact bl_ok O hs hg hd ha hG h2
      · rename_i a c d hx hG
        cases es with
        | nil => cases h
        | cons e es =>
          have h2 : (if x = "isinstance" then some (tCB (rIsi2 g.K a c d) ta) else if x = "all" then some (tCB (rAll g.K) ta) else (blt g.K x).bind fun b => if S.cm || b.cool then some (tCB b.r ta) else none) = some t := h
          by_cases hx2 : x = "isinstance"
          · rw [if_pos hx2] at h2
            cases h2
            subst hx2
            obtain ⟨s1, s2⟩ := Bool.and_eq_true_iff.mp (show (noStar e && es.all noStar) = true from hs)
            rw [← O.K]
            exact pe_callB (isi2_ok (O.xv a c d hx)) hg (O.bl _ hG) boot_isinstance ha (by decide) hd (star_cons s1) (star_none s2)
          · rw [if_neg hx2] at h2
            by_cases hx3 : x = "all"
            · rw [if_pos hx3] at h2
              cases h2
              subst hx3
              obtain ⟨s1, s2⟩ := Bool.and_eq_true_iff.mp (show (noStar e && es.all noStar) = true from hs)
              rw [← O.K]
              exact pe_callB (cr_all_hot (O.xv a c d hx).hot) hg (O.bl _ hG) boot_all ha (by decide) hd (star_cons s1) (star_none s2)
            rw [if_neg hx3] at h2
            exact bl_ok O hs hg hd ha hG h2
      · rename_i a c d hx hG
        cases es with
        | nil => cases h
        | cons e es =>
          obtain ⟨sp, hH, rfl⟩ := Option.map_eq_some_iff.mp (show (g.Hs.lookup x).map (fun sp => tCallE (sp a c d) ta) = some t from h)
          obtain ⟨s1, s2⟩ := Bool.and_eq_true_iff.mp (show (noStar e && es.all noStar) = true from hs)
          obtain ⟨f, k, ⟨fd, ps, F, b⟩, hr, hm, kp⟩ := O.hfn x sp hH
          exact pe_callE F hr (O.xv a c d hx) hg hm kp b (fun σ pins H s e s' I c => passN pins σ H s e s' I c) ha hd (star_cons s1) (star_none s2)
      · cases h
    · cases h
theorem cCallK_ok (O : OkE g S E X) {x kn : Str} {p pos kp : Pos} {e ke : Expr} {es : List Expr} {ta tk : TA} {t : TE} (hs : (e :: es).all noStar = true) (ha : PA X (e :: es) ta) (hk : PK X [⟨some kn, ke, kp⟩] tk) (h : cCallK g S E x kn ta tk = some t) : PE X (.Call (.Name x p) (e :: es) [⟨some kn, ke, kp⟩] pos) t := by
  unfold cCallK at h
  cases hb : badName x with
  | true =>
    rw [hb] at h
    cases h
  | false =>
    rw [hb] at h
    obtain ⟨hd, hc⟩ := badName_ok hb
    rw [if_neg (by simp)] at h
    split at h
    · rename_i hk'
      have hg := O.gl hk'
      split at h
      · rename_i sp kw hx hG
        by_cases cm : S.cm = true
        · rw [if_pos cm] at h
          obtain ⟨spk, hl, rfl⟩ := Option.map_eq_some_iff.mp h
          obtain ⟨f, k, ⟨fd, ps, sp0, F, fi⟩, hr, hm, kp'⟩ := O.fnd cm x sp kw hG
          obtain ⟨s1, s2⟩ := Bool.and_eq_true_iff.mp (show (noStar e && es.all noStar) = true from hs)
          exact pe_callKW F hr hg hm kp' fi hl O.ps ha hk hd (star_cons s1) (star_none hs)
        · rw [if_neg cm] at h
          cases h
      · cases h
    · cases h
theorem few_ok {es : List Expr} {env : Env} {cpos : Pos} (hs : es.all noStar = true) (hl : es.length < 20) : ((backTo cpos (starEach es env)).all (fun x => !x.1) && (backToKw cpos (keywordEach [] env)).all (fun x => x.1.isSome)
      && decide (es.length + ([] : List Keyword).length + (if ([] : List Keyword).isEmpty then 0 else 1) < 30)) = true := by
  have h1 : (backTo cpos (starEach es env)).all (fun x => !x.1) = true := by
    have h2 := star_none (pos := cpos) (env := env) hs
    rw [List.any_eq_false] at h2
    rw [List.all_eq_true]
    intro y hy
    have := h2 y hy
    simpa using this
  rw [h1]
  show (true && true && decide (es.length + 0 + 0 < 30)) = true
  simp
  omega
theorem mt_one (O : OkE g S E X) {m : Str} {o : Expr} {es : List Expr} {ap pos : Pos} {to : TE} {ta : TA} (b : BM g.K m) (ho : PE X o to) (hs : es.all noStar = true) (ha : PA X es ta) (hb : noSup o = true) (hl : es.length < 20) (hn : (ap.endLine == pos.line) = true)
    (h0 : es ≠ []) : PE X (.Call (.Attribute o m ap) es [] pos) (tBM g.K b.T b.r to ta) := by
  cases es with
  | nil => exact absurd rfl h0
  | cons e es =>
    obtain ⟨s1, s2⟩ := Bool.and_eq_true_iff.mp (show (noStar e && es.all noStar) = true from hs)
    have q := pe_bm (X := X) b.pa b.slot b.hty (b.ok X O.K O.un) ho ha (base_no hb) (few_ok hs hl) hn (star_cons s1) (star_none s2)
    rw [O.K] at q
    exact q
theorem mt_zero (O : OkE g S E X) {m : Str} {o : Expr} {ap pos : Pos} {to : TE} (b : BM g.K m) (ho : PE X o to) (hb : noSup o = true) (hn : (ap.endLine == pos.line) = true) : PE X (.Call (.Attribute o m ap) [] [] pos) (tBM0 g.K b.T b.r to) := by
  have q := pe_bm0 (X := X) b.pa b.slot b.hty (b.ok X O.K O.un) ho (base_no hb) hn
  rw [O.K] at q
  exact q
theorem mtL_ok (O : OkE g S E X) {m : Str} {o : Expr} {es : List Expr} {ap pos : Pos} {to : TE} {ta : TA} (ho : PE X o to) (hs : es.all noStar = true) (ha : PA X es ta) (hb : noSup o = true) (hl : es.length < 20) (hn : (ap.endLine == pos.line) = true)
    (h0 : es ≠ []) : ∀ {bs : List (BM g.K m)}, bs ≠ [] → PE X (.Call (.Attribute o m ap) es [] pos) (tMtL g.K m to ta bs)
  | [], z => absurd rfl z
  | [b], _ => mt_one O b ho hs ha hb hl hn h0
  | b :: c :: r, _ => peOr (mt_one O b ho hs ha hb hl hn h0) (mtL_ok O ho hs ha hb hl hn h0 (bs := c :: r) (fun z => nomatch z))
theorem mtL0_ok (O : OkE g S E X) {m : Str} {o : Expr} {ap pos : Pos} {to : TE} (ho : PE X o to) (hb : noSup o = true) (hn : (ap.endLine == pos.line) = true) :
    ∀ {bs : List (BM g.K m)}, bs ≠ [] → PE X (.Call (.Attribute o m ap) [] [] pos) (tMtL0 g.K m to bs)
  | [], z => absurd rfl z
  | [b], _ => mt_zero O b ho hb hn
  | b :: c :: r, _ => peOr (mt_zero O b ho hb hn) (mtL0_ok O ho hb hn (bs := c :: r) (fun z => nomatch z))
theorem meth_form {o : Expr} {m : Str} {es : List Expr} {ap pos : Pos} {env : Env} (hb : noSup o = true) (hs : es.all noStar = true) (hl : es.length < 20) (hn : (ap.endLine == pos.line) = true) :
    eval (.Call (.Attribute o m ap) es [] pos) env = (do
      let ov ← eval o env
      standAt ap.atName
      let (f, first) ← holding [ov] (getMethod ov m (do return (← importBound o env).getD true))
      callWith pos f first (backTo pos (starEach es env)) (backToKw pos (keywordEach [] env))) := by
  show (do
    let ov ← attributeBase o m env (eval o env)
    standAt ap.atName
    methodCall o m ap pos env ov (es.length + ([] : List Keyword).length) (backTo pos (starEach es env)) (backToKw pos (keywordEach [] env))) = _
  rw [base_no hb]
  have few : methodCallForm (es.length + ([] : List Keyword).length) (backTo pos (starEach es env)) (backToKw pos (keywordEach [] env)) = true := few_ok hs hl
  unfold methodCall
  rw [few]
  unfold methodCallPos calleeOf
  rw [hn]
  rfl
theorem orE_ok {e : Expr} : ∀ {ts : List TE}, (∀ t ∈ ts, PE X e t) → PE X e (orE ts)
  | [], _ => ⟨fun _ _ _ _ _ _ h => h.elim⟩
  | [a], h => h a (by simp)
  | a :: b :: r, h => peOr (h a (by simp)) (orE_ok fun t ht => h t (List.mem_cons_of_mem _ ht))
theorem mOf_mem {m : Str} {c : Addr × Sp × List V} (h : c ∈ mOf g m) : (m, c.1, c.2.1, c.2.2) ∈ g.M := by
  unfold mOf at h
  obtain ⟨p, hp, e⟩ := List.mem_filterMap.mp h
  by_cases q : p.1 = m
  · rw [if_pos q] at e
    cases e
    rw [← q]
    exact hp
  · rw [if_neg q] at e
    cases e
theorem cCallM_ok (O : OkE g S E X) {m : Str} {o : Expr} {ap pos : Pos} {es : List Expr} {to : TE} {ta : TA} {t : TE} (ho : PE X o to) (hs : es.all noStar = true) (hz : es = [] → ta = tNil) (ha : PA X es ta) (hb : noSup o = true) (hl : es.length < 20)
    (h : cCallM g S.cm E m es.isEmpty (ap.endLine == pos.line) to ta = some t) : PE X (.Call (.Attribute o m ap) es [] pos) t := by
  unfold cCallM at h
  split at h
  · rename_i c cs hM
    by_cases hn : ((ap.endLine == pos.line) && S.cm) = true
    · rw [if_pos hn] at h
      obtain ⟨hn, cm⟩ := Bool.and_eq_true_iff.mp hn
      cases h
      refine orE_ok fun t ht => ?_
      obtain ⟨⟨C, sp, dvs⟩, hc, rfl⟩ := List.mem_map.mp ht
      rw [← hM] at hc
      obtain ⟨f, k, ⟨fd, ps, ds, F, b, d⟩, hr, c, me⟩ := O.me cm m C sp dvs (mOf_mem hc)
      cases es with
      | nil =>
        rw [hz rfl]
        exact pe_methSD0 ho c me F hr b d O.ps (meth_form hb hs hl hn)
      | cons e es =>
        obtain ⟨s1, s2⟩ := Bool.and_eq_true_iff.mp (show (noStar e && es.all noStar) = true from hs)
        exact pe_methSD ho c me F hr b d O.ps ha (star_cons s1) (star_none s2) (meth_form hb hs hl hn)
    · rw [if_neg hn] at h
      cases h
  · split at h
    · cases h
    · rename_i b r hB
      by_cases hn : (ap.endLine == pos.line) = true
      · rw [if_pos hn] at h
        cases es with
        | nil =>
          cases h
          exact mtL0_ok O ho hb hn (fun z => nomatch z)
        | cons e es =>
          cases h
          exact mtL_ok O ho hs ha hb hl hn (fun z => nomatch z) (fun z => nomatch z)
      · rw [if_neg hn] at h
        cases h
end
end Rf
namespace Rf
open PySem L2 PySem.Spec PyProof.Rows

theorem sl_u {X : Cx} : SlR X (rSlU X.K) := by
  unfold rSlU
  exact SlR.or sl_list (SlR.or sl_str sl_tup)
theorem asg_len {env : Env} : ∀ {es : List Expr}, (assignEach es env).length = es.length
  | [] => rfl
  | e :: es => by
    have ih := asg_len (env := env) (es := es)
    cases e <;> exact congrArg (· + 1) ih
theorem asg_cons {e : Expr} {es : List Expr} {env : Env} (h : noStar e = true) : assignEach (e :: es) env = (false, assign e env) :: assignEach es env := by
  cases e <;> first | rfl | cases h
theorem asg_none {env : Env} : ∀ {es : List Expr}, es.all noStar = true → (assignEach es env).findIdx? (·.1) = none
  | [], _ => rfl
  | e :: es, h => by
    obtain ⟨h1, h2⟩ := Bool.and_eq_true_iff.mp (show (noStar e && es.all noStar) = true from h)
    rw [asg_cons h1, List.findIdx?_cons]
    rw [asg_none h2]
    rfl
section
variable {g : GT} {S : SC} {E : L2.St → XK} {X : Cx}
theorem cTgt_ok (O : OkE g S E X) {e : Expr} {t : TG} (h : cTgt g S e = some t) : PG X e t ∧ noStar e = true := by
  cases e <;> first | cases h | skip
  rename_i x p
  by_cases hw : S.ow x = true
  · have h2 : (if S.ow x = true then (ixO g.N x).map gName else none) = some t := h
    rw [if_pos hw] at h2
    obtain ⟨i, hi, rfl⟩ := Option.map_eq_some_iff.mp h2
    have hN := ixO_ok hi
    rw [← O.N] at hN
    obtain ⟨l1, l2⟩ := O.ow x hw
    exact ⟨pg_name O.nd hN l1 l2, rfl⟩
  · have h2 : (if S.ow x = true then (ixO g.N x).map gName else none) = some t := h
    rw [if_neg hw] at h2
    cases h2
theorem cTgts_ok (O : OkE g S E X) : ∀ {es : List Expr} {t : TGs}, cTgts g S es = some t → PGs X es t
  | [], t, h => by
    cases h
    exact pgs_nil
  | e :: es, t, h => by
    obtain ⟨te, h1, h2⟩ := Option.bind_eq_some_iff.mp (show ((cTgt g S e).bind fun t => (cTgts g S es).map fun u => gCons t u) = some t from h)
    obtain ⟨u, h3, rfl⟩ := Option.map_eq_some_iff.mp h2
    obtain ⟨p1, p2⟩ := cTgt_ok O h1
    exact pgs_cons p1 (cTgts_ok O h3) (by rw [asg_cons p2]; rfl)
theorem cTgt2_ok (O : OkE g S E X) {e : Expr} {t : TG} (h : cTgt2 g S e = some t) : PG X e t ∧ noStar e = true := by
  have other : cTgt g S e = some t → PG X e t ∧ noStar e = true := cTgt_ok O
  cases e <;> first | exact other h | skip
  rename_i es k p
  have h2 : (if es.all noStar && S.cm then (cTgts g S es).map fun t => gTup g.K es.length t else none) = some t := h
  by_cases hs : (es.all noStar && S.cm) = true
  · rw [if_pos hs] at h2
    obtain ⟨hs, cm⟩ := Bool.and_eq_true_iff.mp hs
    obtain ⟨u, h3, rfl⟩ := Option.map_eq_some_iff.mp h2
    rw [← O.K]
    exact ⟨pg_tup (O.calm cm) (cTgts_ok O h3) asg_len (asg_none hs), rfl⟩
  · rw [if_neg hs] at h2
    cases h2
theorem cTgts2_ok (O : OkE g S E X) : ∀ {es : List Expr} {t : TGs}, cTgts2 g S es = some t → PGs X es t
  | [], t, h => by
    cases h
    exact pgs_nil
  | e :: es, t, h => by
    obtain ⟨te, h1, h2⟩ := Option.bind_eq_some_iff.mp (show ((cTgt2 g S e).bind fun t => (cTgts2 g S es).map fun u => gCons t u) = some t from h)
    obtain ⟨u, h3, rfl⟩ := Option.map_eq_some_iff.mp h2
    obtain ⟨p1, p2⟩ := cTgt2_ok O h1
    exact pgs_cons p1 (cTgts2_ok O h3) (by rw [asg_cons p2]; rfl)
theorem cTg_ok (O : OkE g S E X) {e : Expr} {t : TG} (h : cTg g S e = some t) : PG X e t := by
  cases e <;> first | cases h | skip
  · rename_i x p
    exact (cTgt_ok O (show cTgt g S (.Name x p) = some t from h)).1
  · rename_i es k p
    have h2 : (if es.all noStar && S.cm then (cTgts2 g S es).map fun t => gTup g.K es.length t else none) = some t := h
    by_cases hs : (es.all noStar && S.cm) = true
    · rw [if_pos hs] at h2
      obtain ⟨hs, cm⟩ := Bool.and_eq_true_iff.mp hs
      obtain ⟨u, h3, rfl⟩ := Option.map_eq_some_iff.mp h2
      rw [← O.K]
      exact pg_tup (O.calm cm) (cTgts2_ok O h3) asg_len (asg_none hs)
    · rw [if_neg hs] at h2
      cases h2
theorem hotO (O : OkE g S E X) (h : S.xv.isSome = true) : L2H.HotC X := by
  cases e : S.xv with
  | none =>
    rw [e] at h
    cases h
  | some z => exact (O.xv z.1 z.2.1 z.2.2 e).hot
theorem cTgH_ok (O : OkE g S E X) {e : Expr} {t : TG} (h : cTgH g S e = some t) : PG X e t := by
  cases e <;> first | cases h | skip
  rename_i es k p
  have h2 : (if es.all noStar && S.xv.isSome then (cTgts g S es).map fun t => gTup g.K es.length t else none) = some t := h
  by_cases hs : (es.all noStar && S.xv.isSome) = true
  · rw [if_pos hs] at h2
    obtain ⟨hs, cm⟩ := Bool.and_eq_true_iff.mp hs
    obtain ⟨u, h3, rfl⟩ := Option.map_eq_some_iff.mp h2
    rw [← O.K]
    exact pg_tup_hot (hotO O cm) (cTgts_ok O h3) asg_len (asg_none hs)
  · rw [if_neg hs] at h2
    cases h2
theorem cTgL_ok (O : OkE g S E X) {es : List Expr} {k : Nat} {p : Pos} {t : TG} (h : cTgL g S es = some t) : PG X (.Tuple es k p) t := by
  unfold cTgL at h
  by_cases hs : (es.all noStar && S.cm) = true
  · rw [if_pos hs] at h
    obtain ⟨hs, cm⟩ := Bool.and_eq_true_iff.mp hs
    obtain ⟨u, h3, rfl⟩ := Option.map_eq_some_iff.mp h
    rw [← O.K]
    have p1 := pg_tup (k := k) (pos := p) (O.calm cm) (cTgts2_ok O h3) asg_len (asg_none hs)
    have p2 := pg_unl (k := k) (pos := p) (O.calm cm) (cTgts2_ok O h3) asg_len (asg_none hs)
    exact ⟨fun pins s σ H v u Q I r h => h.elim (p1.run pins s σ H v u Q I r) (p2.run pins s σ H v u Q I r)⟩
  · rw [if_neg hs] at h
    cases h
theorem glb_ok (O : OkE g S E X) {x : Str} (h : glb g S.sc x = true) : Gl X x ∧ X.mg x = none := by
  unfold glb at h
  obtain ⟨h1, h2⟩ := Bool.and_eq_true_iff.mp h
  constructor
  · refine O.gl ?_
    split at h1
    · assumption
    · cases h1
  · refine O.bl x ?_
    split at h2
    · assumption
    · cases h2
theorem iSeq_ok {tg e : Expr} {te : TE} (h : PE X e te) (hK : X.K = g.K) : PI X tg e (iSeq g.K te) := by
  rw [← hK]
  refine ⟨fun pins s σ H R I hw => ?_⟩
  refine thn (h.run pins s σ H _ I hw) fun v s1 ⟨x, H1, I1, r1, q1⟩ => ?_
  cases x <;> first | exact False.elim q1 | skip
  · rename_i z
    obtain ⟨t, rfl⟩ := r1
    have q : R (Its z) H1 := q1
    cases ha : z.cps.all (· < 128)
    · exact wpAny_pyIter_wide ha (pi_one (tk := s1.toks) I1 _ (turn_str _ z t "str_iterator" (.inr rfl)) ⟨_, Heap.get?_push_size _ rfl, rfl, rfl⟩ q)
    · exact wpAny_pyIter_ascii ha (pi_one (tk := s1.toks) I1 _ (turn_str _ z t "str_ascii_iterator" (.inl rfl)) ⟨_, Heap.get?_push_size _ rfl, rfl, rfl⟩ q)
  · rename_i a
    have q2 : (∃ xs, SqL X.K H1 a xs ∧ R (Itl X.K a) H1) ∨ ∃ xs, SqT X.K H1 a xs ∧ R (Itt X.K a) H1 := q1
    cases r1
    rcases q2 with ⟨xs, hq, q⟩ | ⟨xs, hq, q⟩
    · obtain ⟨its, rv, p, hz⟩ := I1.list hq
      refine wpAny_pyIter_list p.isList ?_
      refine ⟨s1.heap.objs.size, [s1.heap.objs.size], _, _, H1, rfl, I1.kept (t' := s1.toks) fun b o e => Heap.get?_push_of_some _ e, turn_list a _, ⟨_, Heap.get?_push_size _ rfl, rfl, rfl⟩, fun b hb => ?_, q⟩
      have e : b = s1.heap.objs.size := by simpa using hb
      subst e
      exact I1.fpOk (Nat.le_refl _) (I1.hok.fresh (Nat.le_refl _))
    · obtain ⟨its, rv, p, hz⟩ := I1.tuple hq
      refine wpAny_pyIter_tuple (show s1.heap.IsTuple a its.toArray from p) ?_
      refine ⟨s1.heap.objs.size, [s1.heap.objs.size], _, _, H1, rfl, I1.kept (t' := s1.toks) fun b o e => Heap.get?_push_of_some _ e, turn_tuple a _, ⟨_, Heap.get?_push_size _ rfl, rfl, rfl⟩, fun b hb => ?_, q⟩
      have e : b = s1.heap.objs.size := by simpa using hb
      subst e
      exact I1.fpOk (Nat.le_refl _) (I1.hok.fresh (Nat.le_refl _))
def PIs (X : Cx) (tg e : Expr) (ws : List (Bool × TI)) : Prop := ∀ w ∈ ws, PI X tg e w.2
theorem pis_one {tg e : Expr} {b : Bool} {t : TI} (h : PI X tg e t) : PIs X tg e [(b, t)] := fun w hw => by
  have e : w = (b, t) := by simpa using hw
  subst e
  exact h
theorem cI_ok (O : OkE g S E X) {f : Expr → Option TE} (hf : ∀ e t, f e = some t → PE X e t) {tg e : Expr} {t : List (Bool × TI)} (h : cI g S f tg e = some t) : PIs X tg e t := by
  have dflt : ∀ {b : Bool} {t : List (Bool × TI)}, ((f e).map (seqOr g.K b)) = some t → PIs X tg e t := fun {b t} h => by
    obtain ⟨te, h1, rfl⟩ := Option.map_eq_some_iff.mp h
    have p1 : PI X tg e (iSeq g.K te) := iSeq_ok (hf e te h1) O.K
    cases b with
    | false => exact pis_one p1
    | true =>
      intro w hw
      rcases List.mem_cons.mp (show w ∈ [(false, iSeq g.K te), (true, iKeys te)] from hw) with e1 | hw
      · subst e1
        exact p1
      · have e1 : w = (true, iKeys te) := by simpa using hw
        subst e1
        exact pi_keys (hf e te h1)
  have dfltC : ∀ {t : List (Bool × TI)}, ((f e).map (seqC g.K)) = some t → PIs X tg e t := fun {t} h => by
    obtain ⟨te, h1, rfl⟩ := Option.map_eq_some_iff.mp h
    intro w hw
    rcases List.mem_cons.mp (show w ∈ [(false, iSeq g.K te), (false, iKeys (tFrz te))] from hw) with e1 | hw
    · subst e1
      exact iSeq_ok (hf e te h1) O.K
    · have e1 : w = (false, iKeys (tFrz te)) := by simpa using hw
      subst e1
      exact pi_keys (pe_frz (hf e te h1))
  unfold cI at h
  split at h
  · rename_i x p a n k tk cp kp q
    by_cases c : x = "enumerate" ∧ n = "start" ∧ 0 ≤ k ∧ k < 1000
    · rw [if_pos c] at h
      obtain ⟨rfl, rfl, k0, k1⟩ := c
      by_cases e2 : glb g S.sc "enumerate" = true
      · rw [if_pos e2] at h
        obtain ⟨hg, hm⟩ := glb_ok O e2
        split at h
        · obtain ⟨ta, h1, rfl⟩ := Option.map_eq_some_iff.mp h
          obtain ⟨q1, q2, _⟩ := cA_ok hf h1
          rw [← O.K]
          exact pis_one (pi_enumSt (by omega) (by omega) hg hm q1 (cConst_ok rfl) (star_cons (by simpa using q2)))
        · cases h
      · rw [if_neg e2] at h
        cases h
    · rw [if_neg c] at h
      cases h
  · rename_i x p es q
    by_cases e1 : x = "range"
    · rw [if_pos e1] at h
      subst e1
      by_cases e2 : glb g S.sc "range" = true
      · rw [if_pos e2] at h
        obtain ⟨hg, hm⟩ := glb_ok O e2
        split at h
        · obtain ⟨ta, h1, rfl⟩ := Option.map_eq_some_iff.mp h
          obtain ⟨q1, q2, _⟩ := cA_ok hf h1
          exact pis_one (pi_range1 hg hm q1 (star_cons (by simpa using q2)))
        · rename_i a b
          obtain ⟨ta, h1, rfl⟩ := Option.map_eq_some_iff.mp h
          obtain ⟨q1, q2, _⟩ := cA_ok hf h1
          have q3 : noStar a = true ∧ noStar b = true := by simpa using q2
          exact pis_one (pi_range2 hg hm q1 (by rw [star_cons q3.1, star_cons q3.2]; rfl) (by rw [star_cons q3.2]; rfl))
        · cases h
      · rw [if_neg e2] at h
        cases h
    · rw [if_neg e1] at h
      by_cases e1 : x = "enumerate"
      · rw [if_pos e1] at h
        subst e1
        by_cases e2 : glb g S.sc "enumerate" = true
        · rw [if_pos e2] at h
          obtain ⟨hg, hm⟩ := glb_ok O e2
          split at h
          · obtain ⟨ta, h1, rfl⟩ := Option.map_eq_some_iff.mp h
            obtain ⟨q1, q2, _⟩ := cA_ok hf h1
            rw [← O.K]
            intro w hw
            rcases List.mem_cons.mp hw with e1 | hw
            · subst e1
              exact pi_enumU hg hm q1 (star_cons (by simpa using q2))
            · have e1 : w = (true, iEnumU X.K ta) := by simpa using hw
              subst e1
              exact pi_enumU hg hm q1 (star_cons (by simpa using q2))
          · cases h
        · rw [if_neg e2] at h
          cases h
      · rw [if_neg e1] at h
        by_cases e1 : x = "zip"
        · rw [if_pos e1] at h
          subst e1
          by_cases e2 : glb g S.sc "zip" = true
          · rw [if_pos e2] at h
            obtain ⟨hg, hm⟩ := glb_ok O e2
            split at h
            · rename_i a b _ _ _
              obtain ⟨ta, h1, rfl⟩ := Option.map_eq_some_iff.mp h
              obtain ⟨q1, q2, _⟩ := cA_ok hf h1
              have q3 : noStar a = true ∧ noStar b = true := by simpa using q2
              rw [← O.K]
              exact pis_one (pi_zip hg hm q1 (by rw [star_cons q3.1]) (by rw [star_cons q3.2]; rfl))
            · rename_i a b c _ _ _
              obtain ⟨ta, h1, rfl⟩ := Option.map_eq_some_iff.mp h
              obtain ⟨q1, q2, _⟩ := cA_ok hf h1
              have q3 : noStar a = true ∧ noStar b = true ∧ noStar c = true := by simpa using q2
              rw [← O.K]
              exact pis_one (pi_zip3 hg hm q1 (by rw [star_cons q3.1]) (by rw [star_cons q3.2.1, star_cons q3.2.2]; rfl))
            · cases h
          · rw [if_neg e2] at h
            cases h
        · rw [if_neg e1] at h
          exact dfltC h
  · rename_i o m ap q
    by_cases e1 : m = "values"
    · rw [if_pos e1] at h
      subst e1
      by_cases hs : (noSup o && (ap.endLine == q.line)) = true
      · rw [if_pos hs] at h
        obtain ⟨s1, s2⟩ := Bool.and_eq_true_iff.mp hs
        obtain ⟨to, h1, rfl⟩ := Option.map_eq_some_iff.mp h
        exact pis_one (pi_valuesU (hf _ _ h1) (base_no s1) s2)
      · rw [if_neg hs] at h
        cases h
    · rw [if_neg e1] at h
      by_cases e1 : m = "items"
      · rw [if_pos e1] at h
        subst e1
        by_cases hs : (noSup o && (ap.endLine == q.line)) = true
        · rw [if_pos hs] at h
          obtain ⟨s1, s2⟩ := Bool.and_eq_true_iff.mp hs
          split at h
          · obtain ⟨to, h1, rfl⟩ := Option.map_eq_some_iff.mp h
            by_cases c : isCallE o = true
            · rw [if_pos c]
              exact pis_one (pi_itemsU (pe_frz (hf _ _ h1)) (base_no s1) s2)
            · rw [if_neg c]
              exact pis_one (pi_itemsU (hf _ _ h1) (base_no s1) s2)
          · cases h
        · rw [if_neg hs] at h
          cases h
      · rw [if_neg e1] at h
        exact dfltC h
  · by_cases c : isCallE e = true
    · rw [if_pos c] at h
      exact dfltC h
    · rw [if_neg c] at h
      exact dflt h
theorem orS_ok {st : Stmt} : ∀ {ts : List TS}, (∀ t ∈ ts, PS X st t) → PS X st (orS ts)
  | [], _ => ⟨fun _ _ _ _ _ _ h => h.elim⟩
  | [a], h => h a (by simp)
  | a :: b :: r, h => psOr (h a (by simp)) (orS_ok fun t ht => h t (List.mem_cons_of_mem _ ht))
theorem cIH_ok (O : OkE g S E X) {f : Expr → Option TE} (hf : ∀ e t, f e = some t → PE X e t) {tg e : Expr} {t : List (Bool × TI)} (h : cIH g S f tg e = some t) : ∀ w ∈ t, L2H.PIH X tg e w.2 := by
  unfold cIH at h
  split at h
  · rename_i x p a b q
    by_cases e1 : x = "zip"
    · rw [if_pos e1] at h
      subst e1
      by_cases e2 : glb g S.sc "zip" = true
      · rw [if_pos e2] at h
        obtain ⟨hg, hm⟩ := glb_ok O e2
        split at h
        · obtain ⟨ta, h1, rfl⟩ := Option.map_eq_some_iff.mp h
          obtain ⟨q1, q2, _⟩ := cA_ok hf h1
          have q3 : noStar a = true ∧ noStar b = true := by simpa using q2
          rw [← O.K]
          intro w hw
          have e3 : w = (false, iZip X.K ta) := by simpa using hw
          subst e3
          exact pi_zipH hg hm q1 (by rw [star_cons q3.1]) (by rw [star_cons q3.2]; rfl)
        · cases h
      · rw [if_neg e2] at h
        cases h
    · rw [if_neg e1] at h
      cases h
  · cases h
theorem lcE_ok {e : Expr} {ws : List (Bool × TI)} {gt : TG} {tt : TT} {te : TE} {vs : List Nat} (h : ∀ w ∈ ws, PE X e (tLc w.2 gt tt te vs)) : PE X e (lcE ws gt tt te vs) := orE_ok fun t ht => by
  obtain ⟨w, hw, rfl⟩ := List.mem_map.mp ht
  rw [tLcU_eq]
  cases w.1 with
  | true => exact pe_lock (h w hw)
  | false => exact h w hw
theorem lcS_ok {st : Stmt} {ws : List (Bool × TI)} {gt : TG} {tt : TT} {te : TE} {vs : List Nat} {i : Nat} (h : ∀ w ∈ ws, PS X st (tAsg (tLc w.2 gt tt te vs) (gName i))) : PS X st (lcS ws gt tt te vs i) := orS_ok fun t ht => by
  obtain ⟨w, hw, rfl⟩ := List.mem_map.mp ht
  rw [tLcU_eq]
  cases w.1 with
  | true => exact ps_lock (h w hw)
  | false => exact h w hw
theorem forS_ok {st : Stmt} {ws : List (Bool × TI)} {gt : TG} {tb : TS} (h : ∀ w ∈ ws, PS X st (tFor w.2 gt tb)) : PS X st (forS ws gt tb) := orS_ok fun t ht => by
  obtain ⟨w, hw, rfl⟩ := List.mem_map.mp ht
  rw [tForU_eq]
  cases w.1 with
  | true => exact ps_lock (h w hw)
  | false => exact h w hw
theorem cP_ok {f : Expr → Option TE} (hf : ∀ e t, f e = some t → PE X e t) {pos : Pos} : ∀ {ks : List (Option Expr)} {vs : List Expr} {t : List (TE × TE)}, cP f ks vs = some t → PPs X pos ks vs t
  | [], [], t, h => by
    cases h
    exact pps_nil
  | some k :: ks, v :: vs, t, h => by
    obtain ⟨tk, h1, h2⟩ := Option.bind_eq_some_iff.mp h
    obtain ⟨tv, h3, h4⟩ := Option.bind_eq_some_iff.mp h2
    obtain ⟨r, h5, rfl⟩ := Option.map_eq_some_iff.mp h4
    exact pps_cons (hf _ _ h1) (hf _ _ h3) (cP_ok hf h5)
  | none :: _, _, _, h => by cases h
  | [], _ :: _, _, h => by cases h
  | some _ :: _, [], _, h => by cases h
theorem pw_of {op : BoolOp} {vs : List Expr} {p : Pos} {t : TT} (h : PT X (.BoolOp op vs p) t) : PW X (.BoolOp op vs p) t := ⟨fun whole pins s σ H Q I hw => h.run pins s σ H Q I hw⟩
theorem isN {op : CmpOp} {a b : Expr} {pos : Pos} {r : R2} {ta tb : TE} (O : OkE g S E X) (hr : rCmp g.K op = some r) (ha : PE X a ta) (hb : PE X b tb) (hs : noSet b = true) : PE X (.Compare a [op] [b] pos) (tOp r ta tb) := by
  rw [← O.K] at hr
  exact pe_cmpR (rCmp_ok O.un hr) ha hb (mark_no hs)
theorem spC_ok (O : OkE g S E X) {f : Expr → Option TE} (hf : ∀ e t, f e = some t → PE X e t) {e : Expr} {t : TE} (h : spC g S f e = some t) : PE X e t := by
  unfold spC at h
  split at h
  · split at h
    · rename_i c
      obtain ⟨rfl, rfl, c1, c2, c3, c4⟩ := c
      obtain ⟨to, h1, rfl⟩ := Option.map_eq_some_iff.mp h
      obtain ⟨g1, g2⟩ := glb_ok O c3
      unfold tItems
      exact pe_listItemsU (O.calm c4) (hf _ _ h1) g1 g2 PyProof.Rows.boot_list (base_no c1) c2 rfl
    · cases h
  · split at h
    · rename_i c
      obtain ⟨rfl, rfl, c1, c2, c3, c4⟩ := c
      obtain ⟨to, h1, rfl⟩ := Option.map_eq_some_iff.mp h
      obtain ⟨g1, g2⟩ := glb_ok O c2
      obtain ⟨g3, g4⟩ := glb_ok O c3
      unfold tLRg1
      exact pe_listRg (O.calm c4) g1 g2 (prg_1 g3 g4 (hf _ _ h1) (star_cons c1)) rfl
    · cases h
  · split at h
    · rename_i c
      obtain ⟨rfl, rfl, c0, c1, c2, c3, c4⟩ := c
      obtain ⟨ta, h1, h⟩ := Option.bind_eq_some_iff.mp h
      obtain ⟨tb, h2, rfl⟩ := Option.map_eq_some_iff.mp h
      obtain ⟨g1, g2⟩ := glb_ok O c2
      obtain ⟨g3, g4⟩ := glb_ok O c3
      unfold tLRg2
      exact pe_listRg (O.calm c4) g1 g2 (prg_2 g3 g4 (hf _ _ h1) (hf _ _ h2) (by rw [star_cons c0]) (star_cons c1) (by rw [star_cons c1]; rfl)) rfl
    · split at h
      · rename_i a b _ _ _ c
        obtain ⟨rfl, rfl, c2, c3, c4⟩ := c
        obtain ⟨ta, h1, rfl⟩ := Option.map_eq_some_iff.mp h
        obtain ⟨g1, g2⟩ := glb_ok O c2
        obtain ⟨g3, g4⟩ := glb_ok O c3
        obtain ⟨q1, q2, _⟩ := cA_ok hf h1
        have q3 : noStar a = true ∧ noStar b = true := by simpa using q2
        unfold tLZ
        rw [← O.K]
        exact pe_listZip (O.calm c4) g1 g2 PyProof.Rows.boot_list g3 g4 q1 (by rw [star_cons q3.1]) (by rw [star_cons q3.2]; rfl) rfl
      · cases h
  · split at h
    · rename_i o m ap e e2 p c
      obtain ⟨rfl, c1, c2, c3, c4⟩ := c
      obtain ⟨to, h1, h⟩ := Option.bind_eq_some_iff.mp h
      obtain ⟨ta, h2, h⟩ := Option.bind_eq_some_iff.mp h
      obtain ⟨tb, h3, rfl⟩ := Option.map_eq_some_iff.mp h
      refine pe_dsetd (hf _ _ h1) (hf _ _ h2) (hf _ _ h3) ⟨base_no c1, few_ok (by simp [c3, c4]) (show 2 < 20 by decide), c2, ?_⟩
      rw [star_cons c3, star_cons c4]
      rfl
    · cases h
  · obtain ⟨to, h1, rfl⟩ := Option.map_eq_some_iff.mp h
    unfold tRev
    rw [← O.K]
    exact pe_revL (hf _ _ h1)
  · obtain ⟨te, h1, h⟩ := Option.bind_eq_some_iff.mp h
    obtain ⟨tk, h2, rfl⟩ := Option.map_eq_some_iff.mp h
    unfold tStp
    rw [← O.K]
    exact pe_stepL (hf _ _ h1) (hf _ _ h2)
  · cases h
theorem sound (n : Nat) : (∀ (S : SC) (E : L2.St → XK) (X : Cx), OkE g S E X → ∀ e t, cE g n S E e = some t → PE X e t) ∧ (∀ (S : SC) (E : L2.St → XK) (X : Cx), OkE g S E X → ∀ e t, cT g n S E e = some t → PT X e t) := by
  induction n with
  | zero => exact ⟨fun S E X O e t h => (nomatch h), fun S E X O e t h => (nomatch h)⟩
  | succ n ih =>
    obtain ⟨ihE, ihT⟩ := ih
    refine ⟨fun S E X O e t h => ?_, fun S E X O e t h => ?_⟩
    · have f := fun e t h => ihE S E X O e t h
      have hu : X.A.units + 1 < cLine := by have := O.un; omega
      cases e with
      | Name x p => exact cName_ok O h
      | Constant c j p => exact cConst_ok h
      | BinOp a op b p =>
        obtain ⟨r, h1, h2⟩ := Option.bind_eq_some_iff.mp h
        obtain ⟨ta, h3, h4⟩ := Option.bind_eq_some_iff.mp h2
        obtain ⟨tb, h5, rfl⟩ := Option.map_eq_some_iff.mp h4
        rw [← O.K] at h1
        exact pe_op (rBin_ok h1) (f _ _ h3) (f _ _ h5)
      | UnaryOp op a p =>
        cases op <;> first | cases h | skip
        · obtain ⟨ta, h3, rfl⟩ := Option.map_eq_some_iff.mp h
          exact pe_notU (f _ _ h3)
        · obtain ⟨ta, h3, rfl⟩ := Option.map_eq_some_iff.mp h
          exact pe_un un_negU (f _ _ h3)
      | BoolOp op vs p =>
        cases vs with
        | nil => cases h
        | cons a r =>
          cases r with
          | nil => exact pe_one (f _ _ h)
          | cons b r =>
            obtain ⟨ta, h3, h4⟩ := Option.bind_eq_some_iff.mp h
            obtain ⟨tb, h5, rfl⟩ := Option.map_eq_some_iff.mp h4
            cases op with
            | And => exact pe_andU (f _ _ h3) (f _ _ h5)
            | Or => exact pe_orU (f _ _ h3) (f _ _ h5)
      | Compare a ops bs p =>
        rcases ops with _ | ⟨op, _ | ⟨op', _ | ⟨_, _⟩⟩⟩ <;> rcases bs with _ | ⟨b, _ | ⟨c, _ | ⟨_, _⟩⟩⟩ <;> first | cases h | skip
        · have h' : (if noSet b then (rCmp g.K op).bind fun r => (cE g n S E a).bind fun ta => (cE g n S E b).map fun tb => tOp r ta tb else none) = some t := h
          by_cases hs : noSet b = true
          · rw [if_pos hs] at h'
            obtain ⟨r, h1, h2⟩ := Option.bind_eq_some_iff.mp h'
            obtain ⟨ta, h3, h4⟩ := Option.bind_eq_some_iff.mp h2
            obtain ⟨tb, h5, rfl⟩ := Option.map_eq_some_iff.mp h4
            exact isN O h1 (f _ _ h3) (f _ _ h5) hs
          · rw [if_neg hs] at h'
            cases h'
        · have h' : (if noSet c then (rCmp g.K op).bind fun r => (rCmp g.K op').bind fun r' => (cE g n S E a).bind fun ta => (cE g n S E b).bind fun tb => (cE g n S E c).map fun tc => tChU r r' ta tb tc else none) = some t := h
          by_cases hs : noSet c = true
          · rw [if_pos hs] at h'
            obtain ⟨r, h1, h2⟩ := Option.bind_eq_some_iff.mp h'
            obtain ⟨r', h1', h2⟩ := Option.bind_eq_some_iff.mp h2
            obtain ⟨ta, h3, h4⟩ := Option.bind_eq_some_iff.mp h2
            obtain ⟨tb, h5, h6⟩ := Option.bind_eq_some_iff.mp h4
            obtain ⟨tc, h7, rfl⟩ := Option.map_eq_some_iff.mp h6
            rw [← O.K] at h1 h1'
            exact pe_chU (rCmp_ok O.un h1) (rCmp_ok O.un h1') (f _ _ h3) (f _ _ h5) (f _ _ h7) (mark_no hs)
          · rw [if_neg hs] at h'
            cases h'
      | Call fn es kw p =>
        replace h := orO_ok (show orO (spC g S (cE g n S E) (.Call fn es kw p)) _ = some t from h)
        rcases h with h | h
        · exact spC_ok O f h
        cases kw with
        | cons q qs =>
          cases fn <;> first | cases h | skip
          rename_i x xp
          obtain ⟨kn, ke, kp⟩ := q
          cases qs with
          | cons _ _ => cases kn <;> cases h
          | nil =>
            cases kn with
            | none => cases h
            | some kn =>
              have h' : (if es.isEmpty then none else (cA (cE g n S E) es).bind fun ta => (cE g n S E ke).bind fun tk => cCallK g S E x kn ta (tCons tk tNil)) = some t := h
              cases es with
              | nil => cases h'
              | cons e es =>
                obtain ⟨ta, h3, h4⟩ := Option.bind_eq_some_iff.mp (show ((cA (cE g n S E) (e :: es)).bind fun ta => (cE g n S E ke).bind fun tk => cCallK g S E x kn ta (tCons tk tNil)) = some t from h')
                obtain ⟨tk, h5, h6⟩ := Option.bind_eq_some_iff.mp h4
                obtain ⟨q1, q2, q3⟩ := cA_ok f h3
                exact cCallK_ok O q2 q1 (pk_cons (f _ _ h5) pk_nil) h6
        | nil =>
          cases fn <;> first | cases h | skip
          · rename_i o m ap
            have h' : (if noSup o && decide (es.length < 20) then (cE g n S E o).bind fun to => (cA (cE g n S E) es).bind fun ta => cCallM g S.cm E m es.isEmpty (ap.endLine == p.line) to ta else none) = some t := h
            by_cases hs : (noSup o && decide (es.length < 20)) = true
            · rw [if_pos hs] at h'
              obtain ⟨to, h1, h2⟩ := Option.bind_eq_some_iff.mp h'
              obtain ⟨ta, h3, h4⟩ := Option.bind_eq_some_iff.mp h2
              obtain ⟨s1, s2⟩ := Bool.and_eq_true_iff.mp hs
              obtain ⟨q1, q2, q3⟩ := cA_ok f h3
              exact cCallM_ok O (f _ _ h1) q2 q3 q1 s1 (of_decide_eq_true s2) h4
            · rw [if_neg hs] at h'
              cases h'
          · rename_i x xp
            have h' : (match sumV x es with
              | some o => if glb g S.sc "sum" && S.cm then (cE g n S E o).map tSumVals else none
              | none => (cA (cE g n S E) es).bind fun ta => cCallN g S E x es.isEmpty ta) = some t := h
            split at h'
            · rename_i o hv
              obtain ⟨rfl, ap, mp, rfl, s1, s2⟩ := sumV_ok hv
              by_cases hg : (glb g S.sc "sum" && S.cm) = true
              · rw [if_pos hg] at h'
                obtain ⟨hg, cm⟩ := Bool.and_eq_true_iff.mp hg
                obtain ⟨to, h1, rfl⟩ := Option.map_eq_some_iff.mp h'
                obtain ⟨g1, g2⟩ := glb_ok O hg
                exact pe_sumVals (O.calm cm) g1 g2 (f _ _ h1) (base_no s1) s2
              · rw [if_neg hg] at h'
                cases h'
            · obtain ⟨ta, h3, h4⟩ := Option.bind_eq_some_iff.mp h'
              obtain ⟨q1, q2, q3⟩ := cA_ok f h3
              exact cCallN_ok O q2 q3 q1 h4
      | Attribute o a p =>
        have h' : (if noSup o then (cE g n S E o).map fun to => (match S.xv with
          | none => tFld g.K to a
          | some (b, c, d) => fun σ H Q => tFld g.K to a σ H Q ∨ tFldX g.K b c d to a σ H Q) else none) = some t := h
        by_cases hs : noSup o = true
        · rw [if_pos hs] at h'
          obtain ⟨to, h1, rfl⟩ := Option.map_eq_some_iff.mp h'
          rw [← O.K]
          split
          · exact pe_fld (f _ _ h1) (base_no hs)
          · rename_i b c d hx
            exact peOr (pe_fld (f _ _ h1) (base_no hs)) (pe_fldX (O.xv b c d hx) (f _ _ h1) (base_no hs))
        · rw [if_neg hs] at h'
          cases h'
      | Subscript a b p =>
        replace h := orO_ok (show orO (spC g S (cE g n S E) (.Subscript a b p)) _ = some t from h)
        rcases h with h | h
        · exact spC_ok O f h
        have other : noSlice b = true → ((cE g n S E a).bind fun ta => (cE g n S E b).map fun tb => tOp (rIxU g.K) ta tb) = some t → PE X (.Subscript a b p) t := fun hb h => by
          obtain ⟨ta, h3, h4⟩ := Option.bind_eq_some_iff.mp h
          obtain ⟨tb, h5, rfl⟩ := Option.map_eq_some_iff.mp h4
          rw [← O.K]
          exact pe_ix (ix_u hu) (f _ _ h3) (f _ _ h5) (ix_no hb)
        cases b <;> first | exact other rfl h | skip
        rename_i lo hi st sp
        cases st with
        | some _ => cases h
        | none =>
          obtain ⟨ta, h3, h4⟩ := Option.bind_eq_some_iff.mp h
          obtain ⟨tl, h5, h6⟩ := Option.bind_eq_some_iff.mp h4
          obtain ⟨th, h7, rfl⟩ := Option.map_eq_some_iff.mp h6
          rw [← O.K]
          exact pe_slice sl_u (f _ _ h3) (cO_ok f h5) (cO_ok f h7)
      | List es p =>
        obtain ⟨ta, h3, rfl⟩ := Option.map_eq_some_iff.mp h
        exact pe_lst (cA_ok f h3).1
      | Tuple es k p =>
        obtain ⟨ta, h3, rfl⟩ := Option.map_eq_some_iff.mp h
        exact pe_tup (cA_ok f h3).1
      | Dict ks vs p =>
        cases ks with
        | cons k ks =>
          cases vs with
          | nil => cases h
          | cons v vs =>
            have h' : (if ((k :: ks).all (·.isSome) && decide ((k :: ks).length = (v :: vs).length) && decide ((k :: ks).length ≤ 15)) = true then (cP (cE g n S E) (k :: ks) (v :: vs)).map (if isN1 (k :: ks) then tDispN else tDisp) else none) = some t := h
            by_cases hs : ((k :: ks).all (·.isSome) && decide ((k :: ks).length = (v :: vs).length) && decide ((k :: ks).length ≤ 15)) = true
            · rw [if_pos hs] at h'
              obtain ⟨tr, h1, rfl⟩ := Option.map_eq_some_iff.mp h'
              obtain ⟨hs, s3⟩ := Bool.and_eq_true_iff.mp hs
              obtain ⟨s1, s2⟩ := Bool.and_eq_true_iff.mp hs
              split
              · exact pe_dispN (cP_ok f h1) s1 (of_decide_eq_true s2) (fun z => by cases z) (of_decide_eq_true s3)
              · exact pe_disp (cP_ok f h1) s1 (of_decide_eq_true s2) (fun z => by cases z) (of_decide_eq_true s3)
            · rw [if_neg hs] at h'
              cases h'
        | nil =>
          cases vs with
          | cons _ _ => cases h
          | nil =>
            cases h
            exact peOr pe_dnewK pe_dnewT
      | IfExp c a b p =>
        obtain ⟨tc, h1, h2⟩ := Option.bind_eq_some_iff.mp h
        obtain ⟨ta, h3, h4⟩ := Option.bind_eq_some_iff.mp h2
        obtain ⟨tb, h5, rfl⟩ := Option.map_eq_some_iff.mp h4
        exact pe_ifU (ihT S E X O _ _ h1) (f _ _ h3) (f _ _ h5)
      | ListComp elt gens scope p =>
        rcases gens with _ | ⟨⟨tg, iter, ifs, k⟩, _ | ⟨_, _⟩⟩ <;> first | cases h | skip
        have h' : (if (blkC g.N S.sc scope (ownOf g.N scope) && noSet iter && (k == 0) && S.cm) = true then
          (cI g S (cE g n S E) tg iter).bind fun wi => (cTg g (S.blk scope) tg).bind fun tt => (cF (cT g n (S.blk scope) EZ) ifs).bind fun tf =>
            (cE g n (S.blk scope) EZ elt).map fun te => lcE wi tt tf te ((ownOf g.N scope).map (·.2))
          else if (blkC g.N S.sc scope (ownOf g.N scope) && noSet iter && (k == 0) && S.xv.isSome) = true then
            (cIH g S (cE g n S E) tg iter).bind fun wi => (cTgH g (S.blkH scope) tg).bind fun tt => (cF (cT g n (S.blkH scope) EZ) ifs).bind fun tf =>
              (cE g n (S.blkH scope) EZ elt).map fun te => lcE wi tt tf te ((ownOf g.N scope).map (·.2))
          else none) = some t := h
        by_cases hs : (blkC g.N S.sc scope (ownOf g.N scope) && noSet iter && (k == 0) && S.cm) = true
        · rw [if_pos hs] at h'
          obtain ⟨wi, h1, h2⟩ := Option.bind_eq_some_iff.mp h'
          obtain ⟨tt, h3, h4⟩ := Option.bind_eq_some_iff.mp h2
          obtain ⟨tf, h5, h6⟩ := Option.bind_eq_some_iff.mp h4
          obtain ⟨te, h7, rfl⟩ := Option.map_eq_some_iff.mp h6
          obtain ⟨hs, cm⟩ := Bool.and_eq_true_iff.mp hs
          obtain ⟨hs, s3⟩ := Bool.and_eq_true_iff.mp hs
          obtain ⟨s1, s2⟩ := Bool.and_eq_true_iff.mp hs
          have k0 : k = 0 := by simpa using s3
          subst k0
          have bo : BlkOk X.N X.env.scope scope (ownOf g.N scope) := by
            rw [O.N, O.sc]
            exact blkOk_by s1
          refine lcE_ok fun w hw => pe_lc (O.calm cm) O.nd (cI_ok O f h1 w hw) bo (fun s H C cl fp => cTg_ok (O.blk cm s H scope bo.kind C cl fp) h3) (fun s H C cl fp => ?_) (fun s H C cl fp => ihE _ _ _ (O.blk cm s H scope bo.kind C cl fp) _ _ h7) (fold_no s2)
          rcases ifs with _ | ⟨c, _ | ⟨_, _⟩⟩
          · cases h5
            exact pts_nil
          · exact pts_one (ihT _ _ _ (O.blk cm s H scope bo.kind C cl fp) _ _ h5)
          · cases h5
        · rw [if_neg hs] at h'
          by_cases hs : (blkC g.N S.sc scope (ownOf g.N scope) && noSet iter && (k == 0) && S.xv.isSome) = true
          · rw [if_pos hs] at h'
            obtain ⟨wi, h1, h2⟩ := Option.bind_eq_some_iff.mp h'
            obtain ⟨tt, h3, h4⟩ := Option.bind_eq_some_iff.mp h2
            obtain ⟨tf, h5, h6⟩ := Option.bind_eq_some_iff.mp h4
            obtain ⟨te, h7, rfl⟩ := Option.map_eq_some_iff.mp h6
            obtain ⟨hs, cm⟩ := Bool.and_eq_true_iff.mp hs
            obtain ⟨hs, s3⟩ := Bool.and_eq_true_iff.mp hs
            obtain ⟨s1, s2⟩ := Bool.and_eq_true_iff.mp hs
            have k0 : k = 0 := by simpa using s3
            subst k0
            have bo : BlkOk X.N X.env.scope scope (ownOf g.N scope) := by
              rw [O.N, O.sc]
              exact blkOk_by s1
            refine lcE_ok fun w hw => pe_lcH (hotO O cm) O.nd (cIH_ok O f h1 w hw) bo (fun s H C cl fp => cTgH_ok (O.blkH s H scope bo.kind C cl fp) h3) (fun s H C cl fp => ?_) (fun s H C cl fp => ihE _ _ _ (O.blkH s H scope bo.kind C cl fp) _ _ h7) (fold_no s2)
            rcases ifs with _ | ⟨c, _ | ⟨_, _⟩⟩
            · cases h5
              exact pts_nil
            · exact pts_one (ihT _ _ _ (O.blkH s H scope bo.kind C cl fp) _ _ h5)
            · cases h5
          · rw [if_neg hs] at h'
            cases h'
      | _ => cases h
    · have f := fun e t h => ihE S E X O e t h
      have ft := fun e t h => ihT S E X O e t h
      have tru : ∀ (e : Expr), noBool e = true → (cE g n S E e).map (tTru g.K) = some t → PT X e t := fun e hn h => by
        obtain ⟨te, h3, rfl⟩ := Option.map_eq_some_iff.mp h
        rw [← O.K]
        exact pt_tru (f _ _ h3) (true_no hn)
      cases e with
      | UnaryOp op a p =>
        cases op <;> first | cases h | skip
        obtain ⟨ta, h3, rfl⟩ := Option.map_eq_some_iff.mp h
        exact pt_not (ft _ _ h3)
      | BoolOp op vs p =>
        cases vs with
        | nil => cases h
        | cons a r =>
          cases r with
          | nil =>
            cases op with
            | And => exact (pw_and1 (ft _ _ h)).pt
            | Or => exact (pw_or1 (ft _ _ h)).pt
          | cons b r =>
            obtain ⟨ta, h3, h4⟩ := Option.bind_eq_some_iff.mp h
            obtain ⟨tb, h5, rfl⟩ := Option.map_eq_some_iff.mp h4
            cases op with
            | And => exact (pw_andU (ft _ _ h3) (pw_of (ft _ _ h5))).pt
            | Or => exact (pw_orU (ft _ _ h3) (pw_of (ft _ _ h5))).pt
      | Compare a ops bs p =>
        rcases ops with _ | ⟨op, _ | ⟨op', _ | ⟨_, _⟩⟩⟩ <;> rcases bs with _ | ⟨b, _ | ⟨c, _ | ⟨_, _⟩⟩⟩ <;> first | cases h | skip
        · have h' : (if noSet b then (rCmp g.K op).bind fun r => (cE g n S E a).bind fun ta => (cE g n S E b).map fun tb => tBo (tOp r ta tb) else none) = some t := h
          by_cases hs : noSet b = true
          · rw [if_pos hs] at h'
            obtain ⟨r, h1, h2⟩ := Option.bind_eq_some_iff.mp h'
            obtain ⟨ta, h3, h4⟩ := Option.bind_eq_some_iff.mp h2
            obtain ⟨tb, h5, rfl⟩ := Option.map_eq_some_iff.mp h4
            rw [← O.K] at h1
            exact pt_cmpU (rCmp_ok O.un h1) (f _ _ h3) (f _ _ h5) (mark_no hs)
          · rw [if_neg hs] at h'
            cases h'
        · have h' : (if noSet c then (rCmp g.K op).bind fun r => (rCmp g.K op').bind fun r' => (cE g n S E a).bind fun ta => (cE g n S E b).bind fun tb => (cE g n S E c).map fun tc => tBo (tChU r r' ta tb tc) else none) = some t := h
          by_cases hs : noSet c = true
          · rw [if_pos hs] at h'
            obtain ⟨r, h1, h2⟩ := Option.bind_eq_some_iff.mp h'
            obtain ⟨r', h1', h2⟩ := Option.bind_eq_some_iff.mp h2
            obtain ⟨ta, h3, h4⟩ := Option.bind_eq_some_iff.mp h2
            obtain ⟨tb, h5, h6⟩ := Option.bind_eq_some_iff.mp h4
            obtain ⟨tc, h7, rfl⟩ := Option.map_eq_some_iff.mp h6
            rw [← O.K] at h1 h1'
            exact pt_chU (rCmp_ok O.un h1) (rCmp_ok O.un h1') (f _ _ h3) (f _ _ h5) (f _ _ h7) (mark_no hs)
          · rw [if_neg hs] at h'
            cases h'
      | IfExp c a b p => cases h
      | _ => exact tru _ rfl h
end
end Rf
namespace Rf
open PySem L2 PySem.Spec PyProof.Rows

/-! ### o[i] by values, for o[i] op= e -/
theorem get_list {X : Cx} : PGet X (rIxL X.K) := by
  intro pins s σ H o i ov iv Q I ro ri h
  obtain ⟨p, xs, k, z, rfl, rfl, hq, he, q⟩ := h
  cases ro
  obtain ⟨t, rfl⟩ := ri
  obtain ⟨its, r, pl, hz⟩ := I.list hq
  obtain ⟨j, h1, h2, h3, h4, h5⟩ := atI_get he
  obtain ⟨w, ew, rw'⟩ := r.get h2
  have hl := r.length
  have hn := line63
  have fin : EP X pins σ Q w s := ⟨z, H, I, rw', q⟩
  by_cases h0 : 0 ≤ k
  · have hj : k.toNat = j := by
      rw [seqIndex_of h0 h5] at h1
      exact Option.some.inj h1
    exact wpAny_getItem_list pl.isList h0 (by omega) (by rw [hj]; simpa using ew) fin
  · have hj : (k + (its.toArray.size : Int)).toNat = j := by
      rw [seqIndex_neg (by omega) h4] at h1
      rw [List.size_toArray, ← hl]
      exact Option.some.inj h1
    exact wpAny_getItem_list_neg pl.isList (by omega) (by rw [List.size_toArray] <;> omega) (by omega) (by rw [hj]; simpa using ew) fin
@[irreducible] def rGetU (K : PySem.W.Frag) : V → V → Hp → VK → Prop := fun x y H Q => rIxL K x y H Q ∨ rIxD x y H Q
theorem get_u {X : Cx} (hu : X.A.units + 1 < cLine) : PGet X (rGetU X.K) := by
  intro pins s σ H o i ov iv Q I ro ri h
  unfold rGetU at h
  rcases h with h | ⟨a, w', rfl, g, q⟩
  · exact get_list pins s σ H o i ov iv Q I ro ri h
  · cases ro
    exact d_getItem hu I g ri fun w2 s3 I3 rw' => ⟨w', H, I3, rw', q⟩

def swB (sc : Scope) (y : Str) (py : Pos) : Expr → Bool
  | .ListComp _ _ s p => (sc.names.lookup y == some .local) && (py.line == p.line) && !(s.names.any fun (n, k) => n == y && (k == .local || k == .cell))
  | _ => false
def noDS : Expr → Bool
  | .SetComp .. => false
  | .DictComp .. => false
  | _ => true
theorem swB_ok {e : Expr} {y : Str} {py : Pos} {l : Nat} {env : Env} (hk : env.scope.kind = .function) (h : noDS e = true) : swapsWith e (some (.Name y py)) l env = pure (swB env.scope y py e) := by
  have hb : env.blockKind = .function := by unfold Env.blockKind; rw [hk]; rfl
  cases e <;> first | rfl | cases h | skip
  unfold swapsWith
  simp only [hb]
  rfl
theorem sw_other {e t : Expr} {l : Nat} {env : Env} (h : noDS e = true) (ht : ∀ x p, t ≠ .Name x p) : swapsWith e (some t) l env = pure false := by
  cases e <;> first | rfl | cases h | skip
  cases t <;> first | rfl | exact absurd rfl (ht _ _)

/-! ### the compiler: statements -/
/-- a way that is never gone -/
def uNever : TS := fun _ _ _ => False
theorem ps_neverU {X : Cx} {st : Stmt} : PS X st uNever := ⟨fun _ _ _ _ _ _ h => h.elim⟩
/-- raise C(e, ..) -/
def uRaise (t : L2.St → Hp → XK → Prop) (E : L2.St → XK) : TS := fun _ σ H => t σ H (E σ)
def cRaise (g : GT) (S : SC) (E : L2.St → XK) (f : Expr → Option TE) : Option Expr → Option Expr → Option TS
  | some (.Call (.Name x _) (e :: es) [] _), none => if badName x || !S.cm then some uNever else (match nameK S.sc x, g.G.lookup x with
    | some false, some (.exc C sp dvs) => (cA f (e :: es)).map fun ta => uRaise (tMkO C sp dvs ta) E
    | _, _ => some uNever)
  | _, _ => some uNever
/-- C.__init__(self, ..) of a base class of exceptions -/
def cutI (g : GT) (sc : Scope) : Expr → Option (List Expr)
  | .Call (.Attribute (.Name b p1) m ap) (e :: es) [] p => if m = "__init__" ∧ badName b = false ∧ (ap.endLine == p.line) = true ∧ (e :: es).length < 20 ∧ noSup (.Name b p1) = true then (match nameK sc b, g.G.lookup b with
    | some false, some (.bex _) => some (e :: es)
    | _, _ => none) else none
  | _ => none
def isBex (g : GT) : Bool := g.G.any fun p => match p.2 with
  | .bex _ => true
  | _ => false
def parB (sc : Scope) (x y a : Str) (px py : Pos) : Bool := (sc.names.lookup x == some .local) && (sc.names.lookup y == some .local) && (py.line == px.line) && decide (x ≠ y) && decide (a ≠ "__debug__")
theorem par_ok {env : Env} {x y a b : Str} {px py pa pb pt p2 : Pos} {kt k2} (hk : env.scope.kind = .function) (h : parB env.scope x y a px py = true) :
    swappedStores [.Tuple [.Name x px, .Name y py] kt pt] (.Tuple [.Name a pa, .Name b pb] k2 p2) env = pure (some [x, y]) := by
  unfold parB at h
  simp only [Bool.and_eq_true, decide_eq_true_eq, beq_iff_eq] at h
  obtain ⟨⟨⟨⟨h1, h2⟩, h3⟩, h4⟩, h5⟩ := h
  have hb : env.blockKind = .function := by unfold Env.blockKind; rw [hk]; rfl
  have k1 : env.kindOf x = some .local := h1
  have k2' : env.kindOf y = some .local := h2
  unfold swappedStores
  simp [hb, k1, k2', h3, foldedForSure, constantsAlone, Expr.pos, List.eraseDups_cons, Ne.symm h4]
  exact fun z => absurd z h5
def cPar (g : GT) (S : SC) (f : Expr → Option TE) : List Expr → List Expr → Option TS
  | [.Name x px, .Name y py], [.Name a pa, .Name b pb] => if S.cm && parB S.sc x y a px py then (ixO g.N x).bind fun i => (ixO g.N y).bind fun j => if i = j then none else (cA f [.Name a pa, .Name b pb]).map fun ta => tPar i j ta else none
  | _, _ => none
structure OkS (g : GT) (S : SC) (E : L2.St → XK) (X : Cx) : Prop extends OkE g S E X where
  po : PassesOwn (model X.prog X.w) X.A X.env X.xe
  tk : L2N.Takes X fun c d σ H => E σ c d H
  st : X.stack = X.env :: X.outer ∧ X.env.frame = some X.env.locals
def cSt (g : GT) (S : SC) (E : L2.St → XK) (n : Nat) : Stmt → Option TS
  | .Return r _ => (match r with
    | none => some tRetN
    | some e => (cE g n S E e).map tRet)
  | .Expr e _ => if noComp e then (match cutI g S.sc e with
    | some es => (cA (cE g n S E) es).map fun ta => tDrop (tVeI g.K ta)
    | none => (cE g n S E e).map tDrop) else none
  | .Pass _ => some tNext
  | .Raise a b _ => cRaise g S E (cE g n S E) a b
  | .Break _ => some tBreak
  | .Continue _ => some tCont
  | .Assign ts e pos => if noDS e then (match ts with
    | [.Name y py] => if S.ow y then (ixO g.N y).bind fun i => (match swB S.sc y py e, e with
      | true, .ListComp elt [⟨tg, iter, ifs, k⟩] scope _ =>
        (match n with
        | 0 => none
        | n + 1 => if blkC g.N S.sc scope (ownOf g.N scope) && noSet iter && (k == 0) && S.cm then
          (cI g S (cE g n S E) tg iter).bind fun wi => (cTg g (S.blk scope) tg).bind fun tt => (cF (cT g n (S.blk scope) EZ) ifs).bind fun tf =>
            (cE g n (S.blk scope) EZ elt).map fun te => lcS wi tt tf te ((ownOf g.N scope).map (·.2)) i
          else none)
      | true, _ => none
      | false, e => (cE g n S E e).map fun te => tAsg te (gName i)) else none
    | [.Tuple es k p] => (match e with
      | .Tuple es2 _ _ => cPar g S (cE g n S E) es es2
      | .Name x q => (cTgL g S es).bind fun t => (cE g n S E (.Name x q)).map fun te => tAsg te t
      | .ListComp elt gens lsc q => (cTgL g S es).bind fun t => (cE g n S E (.ListComp elt gens lsc q)).map fun te => tAsg te t
      | e => (cTg g S (.Tuple es k p)).bind fun t => (cE g n S E e).map fun te => tAsg te t)
    | [.Subscript o i _] => if noSlice i then (cE g n S E o).bind fun to => (cE g n S E i).bind fun ti => (cE g n S E e).map fun te => tAsg te (gSub to ti rSetU) else none
    | [.Attribute o f _] => (cE g n S E o).bind fun to => (cE g n S E e).map fun te => if isBex g then tOst g.K f to te else sFld g.K to te f
    | _ => none) else none
  | .AugAssign tg op e _ => (match tg with
    | .Name y _ => if S.ow y then (ixO g.N y).bind fun i => (rAug g.K op).bind fun r => (cE g n S E e).map fun te => tAug i te r else none
    | .Subscript o i _ => if noSlice i then (rAug g.K op).bind fun r => (cE g n S E o).bind fun to => (cE g n S E i).bind fun ti => (cE g n S E e).map fun te => tAugS to ti te (rGetU g.K) r rSetU else none
    | _ => none)
  | _ => none
/-- the ways joined: R is what holds behind the first -/
def tCut (t u : TS) : TS := fun D σ H => ∃ R : L2.St → Hp → Prop, t { D with nx := R } σ H ∧ ∀ σ' H', R σ' H' → u D σ' H'
theorem pss_cut {X : Cx} {st : Stmt} {rest : List Stmt} {t u : TS} (h1 : PS X st t) (h2 : PSs X rest u) : PSs X (st :: rest) (tCut t u) := by
  refine ⟨fun pins s σ H D I h => ?_⟩
  obtain ⟨R, h, hR⟩ := h
  refine wpAny_execs_cons (thn (h1.run pins s σ H { D with nx := R } I h) fun f s1 q => ?_)
  cases f with
  | next =>
    obtain ⟨σ', H', I', q⟩ := q
    exact h2.run pins s1 σ' H' D I' (hR _ _ q)
  | ret v => exact q
  | brk => exact q
  | cont => exact q
def endsB : List Stmt → Bool
  | [] => false
  | [.Return ..] => true
  | [.Raise ..] => true
  | [.Break ..] => true
  | [.Continue ..] => true
  | _ :: r => endsB r
def cutB : Stmt → Bool
  | .If _ a b _ => !(endsB a && b.isEmpty)
  | _ => false
/-- the class that an except clause names -/
def hCls (g : GT) (sc : Scope) (x : Str) : Option Value := if badName x then none else match nameK sc x, g.G.lookup x with
  | some false, some (.con (.ref C)) => some (.ref C)
  | _, _ => none
/-- try: tb, except c as i: ts -/
def uTry (K : PySem.W.Frag) (c : Value) (i : Nat) (tb : WX → TS) (ts : Addr → Value → Option Addr → TS) (E : L2.St → XK) : TS := fun D σ H => tb (wAs K c i ts (fun c d σ H => E σ c d H) D) D σ H
abbrev eW (W : WX) : L2.St → XK := WE W
def goTry (g : GT) (S : SC) (E : L2.St → XK) (cb : SC → (L2.St → XK) → List Stmt → Option TS) (body : List Stmt) : List ExceptHandler → List Stmt → List Stmt → Option TS
  | [.ExceptHandler (some (.Name x _)) (some n) (b₀ :: suite) _], [], [] => if S.cm && S.xv.isNone && (S.sc.names.lookup n == some .local) then (hCls g S.sc x).bind fun c => (ixO g.N n).map fun i =>
      uTry g.K c i (fun W => (cb S (eW W) body).getD uNever) (fun a c d => (cb { S with cm := false, xv := some (a, c, d) } EZ (b₀ :: suite)).getD uNever) E else none
  | _, _, _ => none
mutual
def cS (g : GT) : Nat → SC → (L2.St → XK) → Stmt → Option TS
  | 0, _, _, _ => none
  | n + 1, S, E, st => match st with
    | .If c a b _ => (cT g n S E c).bind fun tc => (cSs g n S E a).bind fun ta => (cSs g n S E b).map fun tb => uIf tc ta tb
    | .While c b oe _ => (match oe with
      | [] => (cT g n S E c).bind fun tc => (cSs g n S E b).map fun tb => tWhile tc tb
      | _ => none)
    | .For tg it b oe _ => (match oe with
      | [] => if noSet it && S.cm then (cI g S (cE g n S E) tg it).bind fun wi => (cTg g S tg).bind fun t => (cSs g n S E b).map fun tb => forS wi t tb else none
      | _ => none)
    | .Try b hds oe fb _ => goTry g S E (cSs g n) b hds oe fb
    | st => cSt g S E n st
def cSs (g : GT) : Nat → SC → (L2.St → XK) → List Stmt → Option TS
  | 0, _, _, _ => none
  | n + 1, S, E, sts => match sts with
    | [] => some tNext
    | [a] => cS g n S E a
    | a :: b :: r => (cS g n S E a).bind fun ta => (cSs g n S E (b :: r)).map fun tb => if cutB a then tCut ta tb else tSeq ta tb
end
section
variable {g : GT} {S : SC} {E : L2.St → XK} {X : Cx}
theorem cSt_ok (O : OkS g S E X) (n : Nat) (st : Stmt) {t : TS} (h : cSt g S E n st = some t) : PS X st t := by
  have f : ∀ e t, cE g n S E e = some t → PE X e t := fun e t h => (sound n).1 S E X O.toOkE e t h
  have hu : X.A.units + 1 < cLine := by have := O.un; omega
  cases st <;> first | cases h | skip
  case Return r p =>
    cases r with
    | none => cases h; exact ps_retN
    | some e =>
      obtain ⟨te, h1, rfl⟩ := Option.map_eq_some_iff.mp h
      exact ps_ret (f _ _ h1)
  case Assign ts e pos =>
    by_cases hd : noDS e = true
    case neg =>
      have h' : (if noDS e then _ else none) = some t := h
      rw [if_neg hd] at h'
      cases h'
    have h1 := h
    unfold cSt at h1
    dsimp only at h1
    rw [if_pos hd] at h1
    split at h1
    · rename_i y py
      by_cases hw : S.ow y = true
      case neg =>
        rw [if_neg hw] at h1
        cases h1
      rw [if_pos hw] at h1
      obtain ⟨i, hi, h2⟩ := Option.bind_eq_some_iff.mp h1
      have hN := ixO_ok hi
      rw [← O.N] at hN
      obtain ⟨l1, l2⟩ := O.ow y hw
      split at h2
      · rename_i elt tg iter ifs k scope sp hsw
        cases n with
        | zero => cases h2
        | succ n =>
          have h' : (if (blkC g.N S.sc scope (ownOf g.N scope) && noSet iter && (k == 0) && S.cm) = true then
            (cI g S (cE g n S E) tg iter).bind fun wi => (cTg g (S.blk scope) tg).bind fun tt => (cF (cT g n (S.blk scope) EZ) ifs).bind fun tf =>
              (cE g n (S.blk scope) EZ elt).map fun te => lcS wi tt tf te ((ownOf g.N scope).map (·.2)) i
            else none) = some t := h2
          by_cases hs : (blkC g.N S.sc scope (ownOf g.N scope) && noSet iter && (k == 0) && S.cm) = true
          · rw [if_pos hs] at h'
            clear h1 h
            obtain ⟨wi, h1, h2⟩ := Option.bind_eq_some_iff.mp h'
            obtain ⟨tt, h3, h4⟩ := Option.bind_eq_some_iff.mp h2
            obtain ⟨tf, h5, h6⟩ := Option.bind_eq_some_iff.mp h4
            obtain ⟨te, h7, rfl⟩ := Option.map_eq_some_iff.mp h6
            obtain ⟨hs, cm⟩ := Bool.and_eq_true_iff.mp hs
            obtain ⟨hs, s3⟩ := Bool.and_eq_true_iff.mp hs
            obtain ⟨s1, s2⟩ := Bool.and_eq_true_iff.mp hs
            have k0 : k = 0 := by simpa using s3
            subst k0
            have bo : BlkOk X.N X.env.scope scope (ownOf g.N scope) := by
              rw [O.N, O.sc]
              exact blkOk_by s1
            have hl : X.env.scope.names.lookup y = some .local := by
              have z := hsw
              unfold swB at z
              rw [O.sc]
              obtain ⟨z, _⟩ := Bool.and_eq_true_iff.mp z
              obtain ⟨z, _⟩ := Bool.and_eq_true_iff.mp z
              exact of_decide_eq_true (by simpa using z)
            have f := fun e t h => (sound n).1 S E X O.toOkE e t h
            refine lcS_ok fun w hw => ps_setLc (O.calm cm) O.nd hN hl (by rw [swB_ok O.kd hd, O.sc, hsw]) (cI_ok O.toOkE f h1 w hw) bo (fun s H C cl fp => cTg_ok (O.blk cm s H scope bo.kind C cl fp) h3) (fun s H C cl fp => ?_)
              (fun s H C cl fp => (sound n).1 _ _ _ (O.blk cm s H scope bo.kind C cl fp) _ _ h7) (fold_no s2)
            rcases ifs with _ | ⟨c, _ | ⟨_, _⟩⟩
            · cases h5
              exact pts_nil
            · exact pts_one ((sound n).2 _ _ _ (O.blk cm s H scope bo.kind C cl fp) _ _ h5)
            · cases h5
          · rw [if_neg hs] at h'
            cases h'
      · cases h2
      · rename_i hsw
        obtain ⟨te, h3, rfl⟩ := Option.map_eq_some_iff.mp h2
        exact ps_set O.nd hN l1 (f _ _ h3) (by rw [swB_ok O.kd hd, O.sc, hsw]) l2
    · rename_i es k p
      have go : (∀ a b c, e ≠ .Tuple a b c) → ((cTg g S (.Tuple es k p)).bind fun t => (cE g n S E e).map fun te => tAsg te t) = some t → PS X (.Assign [.Tuple es k p] e pos) t := fun ne h => by
        obtain ⟨tt, h3, h4⟩ := Option.bind_eq_some_iff.mp h
        obtain ⟨te, h5, rfl⟩ := Option.map_eq_some_iff.mp h4
        refine ps_asg (f _ _ h5) (cTg_ok O.toOkE h3) (show swapsWith e (some (.Tuple es k p)) pos.line X.env = pure false from sw_other hd (fun x p z => by cases z)) ?_ rfl
        cases e <;> first | rfl | exact absurd rfl (ne _ _ _)
      split at h1
      · rename_i es2 k2 p2
        unfold cPar at h1
        split at h1
        · rename_i x px y py a pa b pb
          by_cases hs : (S.cm && parB S.sc x y a px py) = true
          case neg =>
            rw [if_neg hs] at h1
            cases h1
          rw [if_pos hs] at h1
          obtain ⟨cm, pb'⟩ := Bool.and_eq_true_iff.mp hs
          obtain ⟨i, h3, h4⟩ := Option.bind_eq_some_iff.mp h1
          obtain ⟨j, h5, h6⟩ := Option.bind_eq_some_iff.mp h4
          by_cases hij : i = j
          · rw [if_pos hij] at h6
            cases h6
          rw [if_neg hij] at h6
          obtain ⟨ta, h7, rfl⟩ := Option.map_eq_some_iff.mp h6
          have hN := ixO_ok h3
          have hN' := ixO_ok h5
          rw [← O.N] at hN hN'
          unfold parB at pb'
          have pp := pb'
          simp only [Bool.and_eq_true, decide_eq_true_eq, beq_iff_eq] at pp
          have pq : parB X.env.scope x y a px py = true := by rw [O.sc]; exact pb'
          exact ps_par (O.calm cm) O.nd hN hN' hij (by rw [O.sc]; exact pp.1.1.1.1) (by rw [O.sc]; exact pp.1.1.1.2) (cA_ok f h7).1 (par_ok O.kd pq)
        · cases h1
      · rename_i x q
        obtain ⟨tt, h3, h4⟩ := Option.bind_eq_some_iff.mp h1
        obtain ⟨te, h5, rfl⟩ := Option.map_eq_some_iff.mp h4
        exact ps_asg (f _ _ h5) (cTgL_ok O.toOkE h3) (show swapsWith (.Name x q) (some (.Tuple es k p)) pos.line X.env = pure false from sw_other hd (fun x p z => by cases z)) rfl rfl
      · rename_i elt gens lsc q
        obtain ⟨tt, h3, h4⟩ := Option.bind_eq_some_iff.mp h1
        obtain ⟨te, h5, rfl⟩ := Option.map_eq_some_iff.mp h4
        exact ps_asg (f _ _ h5) (cTgL_ok O.toOkE h3) (show swapsWith (.ListComp elt gens lsc q) (some (.Tuple es k p)) pos.line X.env = pure false from sw_other hd (fun x p z => by cases z)) rfl rfl
      · rename_i _ ne _ _
        exact go (fun a b c z => ne a b c z) h1
    · rename_i o i p
      by_cases hs : noSlice i = true
      case neg =>
        rw [if_neg hs] at h1
        cases h1
      rw [if_pos hs] at h1
      obtain ⟨to, h3, h4⟩ := Option.bind_eq_some_iff.mp h1
      obtain ⟨ti, h5, h6⟩ := Option.bind_eq_some_iff.mp h4
      obtain ⟨te, h7, rfl⟩ := Option.map_eq_some_iff.mp h6
      refine ps_asg (f _ _ h7) (pg_sub (f _ _ h3) (f _ _ h5) (set_u hu) (fun v => ?_)) (show swapsWith e (some (.Subscript o i p)) pos.line X.env = pure false from sw_other hd (fun x p z => by cases z)) rfl rfl
      cases i <;> first | rfl | cases hs
    · rename_i o a p
      obtain ⟨to, h3, h4⟩ := Option.bind_eq_some_iff.mp h1
      obtain ⟨te, h5, rfl⟩ := Option.map_eq_some_iff.mp h4
      rw [← O.K]
      split
      · exact ps_ost (f _ _ h3) (f _ _ h5) (sw_other hd (fun x p z => nomatch z))
      · exact ps_fld (f _ _ h3) (f _ _ h5) (sw_other hd (fun x p z => nomatch z))
    · cases h1
  case AugAssign tg op e pos =>
    cases tg <;> first | cases h | skip
    · rename_i o i p
      have h' : (if noSlice i then (rAug g.K op).bind fun r => (cE g n S E o).bind fun to => (cE g n S E i).bind fun ti => (cE g n S E e).map fun te => tAugS to ti te (rGetU g.K) r rSetU else none) = some t := h
      by_cases hs : noSlice i = true
      case neg =>
        rw [if_neg hs] at h'
        cases h'
      rw [if_pos hs] at h'
      obtain ⟨r, h1, h2⟩ := Option.bind_eq_some_iff.mp h'
      obtain ⟨to, h3, h4⟩ := Option.bind_eq_some_iff.mp h2
      obtain ⟨ti, h5, h6⟩ := Option.bind_eq_some_iff.mp h4
      obtain ⟨te, h7, rfl⟩ := Option.map_eq_some_iff.mp h6
      rw [← O.K] at h1 ⊢
      refine ps_augS (f _ _ h3) (f _ _ h5) (get_u hu) (f _ _ h7) (rAug_ok h1) (set_u hu) (fun ov iv new => ?_)
      cases i <;> first | rfl | cases hs
    · rename_i y p
      have h' : (if S.ow y then (ixO g.N y).bind fun i => (rAug g.K op).bind fun r => (cE g n S E e).map fun te => tAug i te r else none) = some t := h
      by_cases hw : S.ow y = true
      case neg =>
        rw [if_neg hw] at h'
        cases h'
      rw [if_pos hw] at h'
      obtain ⟨i, hi, h2⟩ := Option.bind_eq_some_iff.mp h'
      obtain ⟨r, h3, h4⟩ := Option.bind_eq_some_iff.mp h2
      obtain ⟨te, h5, rfl⟩ := Option.map_eq_some_iff.mp h4
      have hN := ixO_ok hi
      rw [← O.N] at hN
      obtain ⟨l1, l2⟩ := O.ow y hw
      rw [← O.K] at h3
      exact ps_aug O.nd hN l1 (f _ _ h5) (rAug_ok h3) l2
  case Expr e p =>
    have h' : (if noComp e then (match cutI g S.sc e with
      | some es => (cA (cE g n S E) es).map fun ta => tDrop (tVeI g.K ta)
      | none => (cE g n S E e).map tDrop) else none) = some t := h
    by_cases hs : noComp e = true
    · rw [if_pos hs] at h'
      split at h'
      · rename_i es hcu
        obtain ⟨ta, h3, rfl⟩ := Option.map_eq_some_iff.mp h'
        unfold cutI at hcu
        split at hcu
        · rename_i b p1 m ap e es' p'
          split at hcu
          · rename_i hc
            obtain ⟨rfl, hb, hn, hl, hsup⟩ := hc
            split at hcu
            · rename_i C hk hG
              cases hcu
              obtain ⟨hd, _⟩ := badName_ok hb
              obtain ⟨hm, hB⟩ := O.bex _ C hG
              obtain ⟨pa, hst, _⟩ := cA_ok f h3
              obtain ⟨s1, s2⟩ := Bool.and_eq_true_iff.mp (show (noStar e && es'.all noStar) = true from hst)
              rw [← O.K]
              exact ps_expr (pe_cutinit (O.gl hk) hm hd hB pa (meth_form hsup hst hl hn) (star_cons s1) (star_none s2)) (swaps_no hs)
            · cases hcu
          · cases hcu
        · cases hcu
      · obtain ⟨te, h3, rfl⟩ := Option.map_eq_some_iff.mp h'
        exact ps_expr (f _ _ h3) (swaps_no hs)
    · rw [if_neg hs] at h'
      cases h'
  case Pass p => exact ps_pass
  case Raise a b p =>
    have h' : cRaise g S E (cE g n S E) a b = some t := h
    unfold cRaise at h'
    split at h'
    · rename_i x px e es q
      split at h'
      · cases h'
        exact ps_neverU
      · rename_i hb
        obtain ⟨hb, cm⟩ : badName x = false ∧ S.cm = true := by simpa using hb
        obtain ⟨hd, hc⟩ := badName_ok hb
        split at h'
        · rename_i C sp dvs hk hG
          obtain ⟨ta, h3, rfl⟩ := Option.map_eq_some_iff.mp h'
          obtain ⟨f', k, ⟨fd, ps, ds, F, b, d⟩, hr, hm, T, iC, tI⟩ := O.exc cm _ C sp dvs hG
          obtain ⟨pa, hs, _⟩ := cA_ok f h3
          obtain ⟨s1, s2⟩ := Bool.and_eq_true_iff.mp (show (noStar e && es.all noStar) = true from hs)
          exact L2N.ps_raise (O.calm cm) O.tk (pmk_oexN T iC tI F hr b d (fun pins σ H s e s' I c => passN pins σ H s e s' I c) (O.gl hk) hm pa hd (star_cons s1) (star_none s2))
        · cases h'
          exact ps_neverU
    · cases h'
      exact ps_neverU
  case Break p => exact ps_break
  case Continue p => exact ps_continue
theorem pss_neverU {X : Cx} {sts : List Stmt} : PSs X sts uNever := ⟨fun _ _ _ _ _ _ h => h.elim⟩
theorem hCls_ok (O : OkE g S E X) {x : Str} {c : Value} (h : hCls g S.sc x = some c) : Names X x c := by
  unfold hCls at h
  split at h
  · cases h
  · rename_i hb
    obtain ⟨hd, _⟩ := badName_ok (by simpa using hb)
    split at h
    · rename_i C hk hG
      cases h
      obtain ⟨u, hu, r⟩ := O.con _ _ hG
      cases r
      exact ⟨O.gl hk, hd, .inl hu⟩
    · cases h
theorem OkS.tr (O : OkS g S E X) (W : WX) (pn : List (Addr × Obj)) (xe : Value → Shared → Prop) (tk : L2N.Takes (X.tr pn xe) W) (po : PassesOwn (model X.prog X.w) X.A X.env xe) (hx : S.xv = none) : OkS g S (eW W) (X.tr pn xe) where
  K := O.K
  N := O.N
  nd := O.nd
  sc := O.sc
  ow := O.ow
  kd := O.kd
  calm := O.calm
  un := O.un
  gd := O.gd
  ps := fun σ => L2N.passAt (X := X.tr pn xe) tk σ
  fn := O.fn
  fnd := O.fnd
  cls := O.cls
  exc := O.exc
  bex := O.bex
  con := O.con
  bl := O.bl
  me := O.me
  hfn := O.hfn
  xv := fun a c d h => by rw [hx] at h; cases h
  po := po
  tk := tk
  st := O.st
theorem OkS.su (O : OkS g S E X) {a : Addr} {oe : Obj} {c : Value} {d : Option Addr} (pn : List (Addr × Obj)) (hz : L2N.Zn c d oe) (hf : ∃ vs, oe.data = .fields vs) : OkS g { S with cm := false, xv := some (a, c, d) } EZ (X.suite a ((a, oe) :: pn)) where
  K := O.K
  N := O.N
  nd := O.nd
  sc := O.sc
  ow := O.ow
  kd := O.kd
  calm := fun z => Bool.noConfusion z
  un := O.un
  gd := fun z => Bool.noConfusion z
  ps := fun σ pins H s e s' I c => passN pins σ H s e s' I c
  fn := fun z => Bool.noConfusion z
  fnd := fun z => Bool.noConfusion z
  cls := fun z => Bool.noConfusion z
  exc := fun z => Bool.noConfusion z
  bex := O.bex
  con := O.con
  bl := O.bl
  me := fun z => Bool.noConfusion z
  hfn := fun x sp h => by
    obtain ⟨f, k, F, r, m, kp⟩ := O.hfn x sp h
    exact ⟨f, k, F, ⟨r.dp, r.un⟩, m, kp⟩
  xv := fun a' c' d' h => by
    cases h
    exact ⟨rfl, oe, List.mem_cons_self, hz, hf⟩
  po := PassesOwn.never
  tk := (fun _ _ ⟨_, _, _, _, _, _, _, _, _, _, _, _, _, _, _, _, w⟩ => (show False from w).elim)
  st := O.st
theorem soundS (n : Nat) : ∀ (S : SC) (E : L2.St → XK) (X : Cx), (∀ st t, OkS g S E X → cS g n S E st = some t → PS X st t) ∧ (∀ sts t, OkS g S E X → cSs g n S E sts = some t → PSs X sts t) := by
  induction n with
  | zero => exact fun S E X => ⟨fun st t O h => (nomatch h), fun st t O h => (nomatch h)⟩
  | succ n ih =>
    intro S E X
    obtain ⟨ihS, ihB⟩ := ih S E X
    refine ⟨fun st t O h => ?_, fun sts t O h => ?_⟩
    · have f : ∀ e t, cE g n S E e = some t → PE X e t := fun e t h => (sound n).1 S E X O.toOkE e t h
      have ft : ∀ e t, cT g n S E e = some t → PT X e t := fun e t h => (sound n).2 S E X O.toOkE e t h
      cases st <;> first | exact cSt_ok O n _ h | skip
      case If c a b p =>
        obtain ⟨tc, h1, h2⟩ := Option.bind_eq_some_iff.mp h
        obtain ⟨ta, h3, h4⟩ := Option.bind_eq_some_iff.mp h2
        obtain ⟨tb, h5, rfl⟩ := Option.map_eq_some_iff.mp h4
        exact ps_ifU (ft _ _ h1) (ihB _ _ O h3) (ihB _ _ O h5)
      case While c b oe p =>
        cases oe with
        | cons _ _ => cases h
        | nil =>
          obtain ⟨tc, h1, h2⟩ := Option.bind_eq_some_iff.mp h
          obtain ⟨tb, h5, rfl⟩ := Option.map_eq_some_iff.mp h2
          exact ps_while O.po (ft _ _ h1) (ihB _ _ O h5)
      case For tg it b oe p =>
        cases oe with
        | cons _ _ => cases h
        | nil =>
          have h' : (if noSet it && S.cm then (cI g S (cE g n S E) tg it).bind fun wi => (cTg g S tg).bind fun t => (cSs g n S E b).map fun tb => forS wi t tb else none) = some t := h
          by_cases hs : (noSet it && S.cm) = true
          · rw [if_pos hs] at h'
            obtain ⟨hs, cm⟩ := Bool.and_eq_true_iff.mp hs
            obtain ⟨wi, h1, h2⟩ := Option.bind_eq_some_iff.mp h'
            obtain ⟨tt, h3, h4⟩ := Option.bind_eq_some_iff.mp h2
            obtain ⟨tb, h5, rfl⟩ := Option.map_eq_some_iff.mp h4
            exact forS_ok fun w hw => ps_for O.po (O.calm cm) (cI_ok O.toOkE f h1 w hw) (cTg_ok O.toOkE h3) (ihB _ _ O h5) (fold_no hs)
          · rw [if_neg hs] at h'
            cases h'
      case Try body hds oe fb p =>
        have h' : goTry g S E (cSs g n) body hds oe fb = some t := h
        unfold goTry at h'
        split at h'
        · rename_i x np m b₀ suite hp
          by_cases hs : (S.cm && S.xv.isNone && (S.sc.names.lookup m == some .local)) = true
          · rw [if_pos hs] at h'
            obtain ⟨hs, s3⟩ := Bool.and_eq_true_iff.mp hs
            obtain ⟨s1, s2⟩ := Bool.and_eq_true_iff.mp hs
            obtain ⟨c, h1, h2⟩ := Option.bind_eq_some_iff.mp h'
            obtain ⟨i, hi, rfl⟩ := Option.map_eq_some_iff.mp h2
            have hN := ixO_ok hi
            rw [← O.N] at hN
            have hl : X.env.scope.names.lookup m = some .local := by
              rw [O.sc]
              exact of_decide_eq_true (by simpa using s3)
            rw [← O.K]
            refine L2N.ps_try_as (tb := fun W => (cSs g n S (eW W) body).getD uNever) (ts := fun a c d => (cSs g n { S with cm := false, xv := some (a, c, d) } EZ (b₀ :: suite)).getD uNever) O.st.1 O.st.2 O.nd hN hl (hCls_ok O.toOkE h1) O.tk (fun W pn xe tk po => ?_) (fun a oe cls d pn hz hf => ?_)
            · show PSs _ _ ((cSs g n S (eW W) body).getD uNever)
              cases e : cSs g n S (eW W) body with
              | none => exact pss_neverU
              | some t => exact (ih S (eW W) (X.tr pn xe)).2 _ _ (O.tr W pn xe tk po (by simpa using s2)) e
            · show PSs _ _ ((cSs g n { S with cm := false, xv := some (a, cls, d) } EZ (b₀ :: suite)).getD uNever)
              cases e : cSs g n { S with cm := false, xv := some (a, cls, d) } EZ (b₀ :: suite) with
              | none => exact pss_neverU
              | some t => exact (ih _ _ _).2 _ _ (O.su pn hz hf) e
          · rw [if_neg hs] at h'
            cases h'
        · cases h'
    · rcases sts with _ | ⟨a, _ | ⟨b, r⟩⟩
      · cases h
        exact pss_nil
      · exact pss_one (ihS _ _ O h)
      · obtain ⟨ta, h1, h2⟩ := Option.bind_eq_some_iff.mp h
        obtain ⟨tb, h3, rfl⟩ := Option.map_eq_some_iff.mp h2
        by_cases hc : cutB a = true
        · rw [if_pos hc]
          exact pss_cut (ihS _ _ O h1) (ihB _ _ O h3)
        · rw [if_neg hc]
          exact pss_cons (ihS _ _ O h1) (ihB _ _ O h3)
end
end Rf
namespace Rf
open PySem L2 PySem.Spec PyProof.Rows

def scopeB (N P : List Str) (sc : Scope) : Bool := (match sc.kind with | .function => true | _ => false) && !sc.isCoroutine && !sc.isGenerator && decide N.Nodup && decide (N.take P.length = P) &&
  P.all (fun x => owB sc x) && sc.names.all (fun y => match y.2 with | .free => false | _ => true)
theorem scopeB_ok {N P : List Str} {sc : Scope} (h : scopeB N P sc = true) : FnScope N P sc := by
  unfold scopeB at h
  simp only [Bool.and_eq_true] at h
  obtain ⟨⟨⟨⟨⟨⟨h1, h2⟩, h3⟩, h4⟩, h5⟩, h6⟩, h7⟩ := h
  refine ⟨?_, by simpa using h2, by simpa using h3, of_decide_eq_true h4, of_decide_eq_true h5, fun x hx => ?_, fun y hy e => ?_⟩
  · split at h1
    · assumption
    · cases h1
  · exact owB_cases (List.all_eq_true.mp h6 x hx)
  · have q := List.all_eq_true.mp h7 y hy
    rw [e] at q
    cases q

section
variable (P : Program) (w : World) (K : PySem.W.Frag) (mg : Str → Option Value) (base : Heap)
/-- a def of the program's own, as its callers have it -/
def FnC (x : Str) (k : Nat) (sp : Sp) (dvs : List V) : Prop := ∃ f fd ps ds, FnOkG P w K mg base (L2N.CX P w) k f fd ps sp ∧ L2.Binds K fd ps ds ∧ Vals dvs ds ∧ mg x = some (.ref f) ∧ PySem.W.keepIn K (.ref f) = true
/-- .. with defaults -/
def FnDC (x : Str) (k : Nat) (sp : Sp) (kw : List (Str × SpK)) : Prop := ∃ f fd ps sp0, FnOkG P w K mg base (L2N.CX P w) k f fd ps sp0 ∧ FillD K fd ps sp0 sp kw ∧ mg x = some (.ref f) ∧ PySem.W.keepIn K (.ref f) = true
def ClC (x : Str) (C : Addr) (k : Nat) (sp : Sp) (dvs : List V) : Prop := ∃ f fd ps ds, FnOkG P w K mg base (L2N.CX P w) k f fd ps sp ∧ L2.Binds K fd ps ds ∧ Vals dvs ds ∧ mg x = some (.ref C) ∧ Mk K C f
def ExC (x : Str) (C : Addr) (k : Nat) (sp : Sp) (dvs : List V) : Prop := ∃ f fd ps ds, FnOkG P w K mg base (L2N.CX P w) k f fd ps sp ∧ L2.Binds K fd ps ds ∧ Vals dvs ds ∧ mg x = some (.ref C) ∧ OexC K C ∧ PySem.W.findIn K (.ref C) "__init__" = some (some (.ref f)) ∧ PySem.W.typeIn K (.ref f) = some (.type "function")
def MeC (m : Str) (C : Addr) (k : Nat) (sp : Sp) (dvs : List V) : Prop := ∃ f fd ps ds, FnOkG P w K mg base (L2N.CX P w) k f fd ps sp ∧ L2.Binds K fd ps ds ∧ Vals dvs ds ∧ Cls K C ∧ Meth K C m f
def FnEC (x : Str) (k : Nat) (sp : SpE) : Prop := ∃ f fd ps, FnE P w K mg base (L2N.CX P w) k f fd ps sp ∧ L2.Binds K fd ps [] ∧ mg x = some (.ref f) ∧ PySem.W.keepIn K (.ref f) = true
def EntH (k : Nat) (x : Str) (sp : SpE) : Prop := ∃ j, j ≤ k ∧ FnEC P w K mg base x j sp
def AllH (k : Nat) : List (Str × SpE) → Prop
  | [] => True
  | p :: r => EntH P w K mg base k p.1 p.2 ∧ AllH k r
def EntG (k : Nat) (x : Str) : GK → Prop
  | .fn sp dvs => ∃ j, j ≤ k ∧ FnC P w K mg base x j sp dvs
  | .cls C sp dvs => ∃ j, j + 1 ≤ k ∧ ClC P w K mg base x C j sp dvs
  | .con v => ∃ u, mg x = some u ∧ RelV v u
  | .bl => mg x = none
  | .exc C sp dvs => ∃ j, j + 1 ≤ k ∧ ExC P w K mg base x C j sp dvs
  | .bex C => mg x = some (.ref C) ∧ BaseE K C
  | .fnd sp kw => ∃ j, j ≤ k ∧ FnDC P w K mg base x j sp kw
def EntM (k : Nat) (m : Str) (C : Addr) (sp : Sp) (dvs : List V) : Prop := ∃ j, j ≤ k ∧ MeC P w K mg base m C j sp dvs
def AllG (k : Nat) : List (Str × GK) → Prop
  | [] => True
  | p :: r => EntG P w K mg base k p.1 p.2 ∧ AllG k r
def AllM (k : Nat) : List (Str × Addr × Sp × List V) → Prop
  | [] => True
  | p :: r => EntM P w K mg base k p.1 p.2.1 p.2.2.1 p.2.2.2 ∧ AllM k r
end
section
variable {P : Program} {w : World} {K : PySem.W.Frag} {mg : Str → Option Value} {base : Heap} {k : Nat}
theorem AllG.at_ : ∀ {l : List (Str × GK)} {x : Str} {e : GK}, AllG P w K mg base k l → l.lookup x = some e → EntG P w K mg base k x e
  | [], _, _, _, h => by cases h
  | (y, v) :: r, x, e, a, h => by
    rw [List.lookup_cons] at h
    cases q : x == y with
    | true =>
      rw [q] at h
      cases h
      have e1 := eq_of_beq q
      subst e1
      exact a.1
    | false =>
      rw [q] at h
      exact AllG.at_ a.2 h
theorem AllM.at_ : ∀ {l : List (Str × Addr × Sp × List V)} {m : Str} {C : Addr} {sp : Sp} {dvs : List V}, AllM P w K mg base k l → (m, C, sp, dvs) ∈ l → EntM P w K mg base k m C sp dvs
  | [], _, _, _, _, _, h => by cases h
  | (y, v) :: r, m, C, sp, dvs, a, h => by
    rcases List.mem_cons.mp h with e | h
    · cases e
      exact a.1
    · exact AllM.at_ a.2 h
theorem AllH.at_ : ∀ {l : List (Str × SpE)} {x : Str} {sp : SpE}, AllH P w K mg base k l → l.lookup x = some sp → EntH P w K mg base k x sp
  | [], _, _, _, h => by cases h
  | (y, v) :: r, x, sp, a, h => by
    rw [List.lookup_cons] at h
    cases q : x == y with
    | true =>
      rw [q] at h
      cases h
      have e1 := eq_of_beq q
      subst e1
      exact a.1
    | false =>
      rw [q] at h
      exact AllH.at_ a.2 h
/-- the context of a def's body -/
theorem okS_of {N ps : List Str} {qual : Str} {scope : Scope} {f : Addr} {cd : Value} {A : Around} {outer : List Env} {s : Shared} {H : Hp} {E : XK} {G : List (Str × GK)} {M : List (Str × Addr × Sp × List V)} {Hs : List (Str × SpE)} (S : FnScope N ps scope)
    (hr : RoomG k (A.deeper (envOfC qual scope s.heap.objs.size f cd))) (aG : AllG P w K mg base k G) (aM : AllM P w K mg base k M) (aH : AllH P w K mg base k Hs) :
    OkS ⟨K, N, G, M, Hs⟩ ⟨scope, owB scope, true, none⟩ (fun _ => E) (cxOf (L2N.CX P w) P w K mg base N qual scope f cd A outer s H E) where
  K := rfl
  N := rfl
  nd := S.nd
  sc := rfl
  ow := fun x h => ⟨owB_cases h, .inl rfl⟩
  kd := S.kind
  calm := fun _ => rfl
  un := by
    have := hr.un
    show (A.deeper (envOfC qual scope s.heap.objs.size f cd)).units + 100 < cLine
    omega
  gd := fun _ => hr.gd
  ps := fun σ pins H s e s' I c => L2N.passes_call (L2N.takes_of rfl rfl rfl rfl) (fun _ _ _ _ h => h) pins σ H s e s' I c
  fn := fun _ x sp dvs h => by
    obtain ⟨j, hj, f, fd, ps, ds, F, b, d, hm, kp⟩ := aG.at_ h
    exact ⟨f, j, ⟨fd, ps, ds, F, b, d⟩, hr.mono hj, hm, kp⟩
  fnd := fun _ x sp kw h => by
    obtain ⟨j, hj, f, fd, ps, sp0, F, fi, hm, kp⟩ := aG.at_ h
    exact ⟨f, j, ⟨fd, ps, sp0, F, fi⟩, hr.mono hj, hm, kp⟩
  cls := fun _ x C sp dvs h => by
    obtain ⟨j, hj, f, fd, ps, ds, F, b, d, hm, mk⟩ := aG.at_ h
    exact ⟨f, j, ⟨fd, ps, ds, F, b, d⟩, hr.mono hj, hm, mk⟩
  exc := fun _ x C sp dvs h => by
    obtain ⟨j, hj, f, fd, ps, ds, F, b, d, hm, T, i1, t1⟩ := aG.at_ h
    exact ⟨f, j, ⟨fd, ps, ds, F, b, d⟩, hr.mono hj, hm, T, i1, t1⟩
  bex := fun x C h => aG.at_ h
  con := fun x v h => aG.at_ h
  bl := fun x h => aG.at_ h
  me := fun _ m C sp dvs h => by
    obtain ⟨j, hj, f, fd, ps, ds, F, b, d, c, me⟩ := aM.at_ h
    exact ⟨f, j, ⟨fd, ps, ds, F, b, d⟩, hr.mono hj, c, me⟩
  hfn := fun x sp h => by
    obtain ⟨j, hj, f, fd, ps, F, b, hm, kp⟩ := aH.at_ h
    exact ⟨f, j, ⟨fd, ps, F, b⟩, L2H.roomH_of (hr.mono hj).rm, hm, kp⟩
  xv := fun a c d h => nomatch h
  po := passes_of rfl
  tk := L2N.takes_of rfl rfl rfl rfl
  st := ⟨rfl, rfl⟩
/-- THE RULE for a def: its reading by the compiler, its promise by that reading -/
theorem def_ok {x qual : Str} {pa : Arguments} {bd : List Stmt} {sc : Scope} {dvs : List V} {kws : List (Str × V)} {f : Addr} {fd : FuncData} {N ps : List Str} {sp : Sp} {G : List (Str × GK)} {M : List (Str × Addr × Sp × List V)} {Hs : List (Str × SpE)} {t : XK → TS}
    (F : FunD K x qual pa bd sc dvs kws f fd) (hS : scopeB N ps sc = true) (n : Nat) (len : ∀ vs H Q E, sp vs H Q E → vs.length = ps.length)
    (hc : ∀ E, cSs ⟨K, N, G, M, Hs⟩ n ⟨sc, owB sc, true, none⟩ (fun _ => E) bd = some (t E))
    (pure : ∀ vs H Q E, sp vs H Q E → t E { nx := fun _ H' => Q .non H', rt := Q } (start N vs) H) (aG : AllG P w K mg base k G) (aM : AllM P w K mg base k M) (aH : AllH P w K mg base k Hs) : FnOkG P w K mg base (L2N.CX P w) (k + 1) f fd ps sp :=
  funD_okG F (scopeB_ok hS) len fun cdv A outer s H vs Q E hr h => ⟨t E, (soundS n _ _ _).2 _ _ (okS_of (scopeB_ok hS) hr aG aM aH) (hc E), pure vs H Q E h⟩
/-- the context of a def's body that is called while an exception is handled -/
theorem okS_ofE {N ps : List Str} {qual : Str} {scope : Scope} {f : Addr} {cd : Value} {A : Around} {outer : List Env} {s : Shared} {H : Hp} {E : XK} {G : List (Str × GK)} {Hs : List (Str × SpE)} {a : Addr} {oe : Obj} {c : Value} {d : Option Addr} (S : FnScope N ps scope)
    (hh : A.handled = some (.ref a)) (hz : L2N.Zn c d oe) (hf : ∃ vs, oe.data = .fields vs) (hr : L2H.RoomH k (A.deeper (envOfC qual scope s.heap.objs.size f cd))) (aG : AllG P w K mg base k G) (aH : AllH P w K mg base k Hs) :
    OkS ⟨K, N, G, [], Hs⟩ ⟨scope, owB scope, false, some (a, c, d)⟩ (fun _ => E) (L2H.cxH (L2N.CX P w) P w K mg base N qual scope f cd A outer s H E (a, oe)) where
  K := rfl
  N := rfl
  nd := S.nd
  sc := rfl
  ow := fun x h => ⟨owB_cases h, .inl rfl⟩
  kd := S.kind
  calm := fun z => Bool.noConfusion z
  un := by
    have := hr.un
    show (A.deeper (envOfC qual scope s.heap.objs.size f cd)).units + 100 < cLine
    omega
  gd := fun z => Bool.noConfusion z
  ps := fun σ pins H s e s' I c => L2N.passes_call (L2N.takes_of rfl rfl rfl rfl) (fun _ _ _ _ h => h) pins σ H s e s' I c
  fn := fun z => Bool.noConfusion z
  fnd := fun z => Bool.noConfusion z
  cls := fun z => Bool.noConfusion z
  exc := fun z => Bool.noConfusion z
  bex := fun x C h => aG.at_ h
  con := fun x v h => aG.at_ h
  bl := fun x h => aG.at_ h
  me := fun z => Bool.noConfusion z
  hfn := fun x sp h => by
    obtain ⟨j, hj, f, fd, ps, F, b, hm, kp⟩ := aH.at_ h
    exact ⟨f, j, ⟨fd, ps, F, b⟩, hr.mono hj, hm, kp⟩
  xv := fun a' c' d' h => by
    cases h
    exact ⟨hh, oe, List.mem_cons_self, hz, hf⟩
  po := passes_of rfl
  tk := L2N.takes_of rfl rfl rfl rfl
  st := ⟨rfl, rfl⟩
/-- a def that is called in an except suite -/
theorem def_he {x : Str} {pa : Arguments} {bd : List Stmt} {sc : Scope} {N ps : List Str} {sp : SpE} {G : List (Str × GK)} {Hs : List (Str × SpE)} {t : Addr → Value → Option Addr → XK → TS}
    (F : ∃ fd, FunD K x x pa bd sc [] [] (He.ga K x) fd) (hm : mg x = some (.ref (He.ga K x))) (hS : scopeB N ps sc = true) (n : Nat) (len : ∀ a c d vs H Q E, sp a c d vs H Q E → vs.length = ps.length)
    (hc : ∀ a c d E, cSs ⟨K, N, G, [], Hs⟩ n ⟨sc, owB sc, false, some (a, c, d)⟩ (fun _ => E) bd = some (t a c d E))
    (pure : ∀ a c d vs H Q E, sp a c d vs H Q E → t a c d E { nx := fun _ H' => Q .non H', rt := Q } (start N vs) H) (aG : AllG P w K mg base k G) (aH : AllH P w K mg base k Hs)
    (hb : ∀ (kV doc pm : Value) (an : Option Addr) (cdv ct : Value) (us : List Value), us.length = ps.length → bindArgs (PySem.W.fnOf x x pa bd sc .none kV doc pm an cdv ct) ⟨us, []⟩ = Pure.pure (ps.zip us)) : FnEC P w K mg base x (k + 1) sp := by
  obtain ⟨fd, F⟩ := F
  refine ⟨_, fd, ps, fnE_of F (scopeB_ok hS) len fun cdv A outer s H vs Q E a oe c d hh hz hf hr h => ⟨t a c d E, ?_, pure a c d vs H Q E h⟩, F.bindsN hb, hm, F.kp⟩
  exact (soundS n _ _ _).2 _ _ (okS_ofE (scopeB_ok hS) hh hz hf hr aG aH) (hc a c d E)
/-- .. as callers have it -/
theorem def_fn {x nm q : Str} {pa : Arguments} {bd : List Stmt} {sc : Scope} {N ps : List Str} {sp : Sp} {G : List (Str × GK)} {M : List (Str × Addr × Sp × List V)} {Hs : List (Str × SpE)} {t : XK → TS}
    (F : ∃ fd, FunD K nm q pa bd sc [] [] (He.ga K x) fd) (hm : mg x = some (.ref (He.ga K x))) (hS : scopeB N ps sc = true) (n : Nat) (len : ∀ vs H Q E, sp vs H Q E → vs.length = ps.length)
    (hc : ∀ E, cSs ⟨K, N, G, M, Hs⟩ n ⟨sc, owB sc, true, none⟩ (fun _ => E) bd = some (t E))
    (pure : ∀ vs H Q E, sp vs H Q E → t E { nx := fun _ H' => Q .non H', rt := Q } (start N vs) H) (aG : AllG P w K mg base k G) (aM : AllM P w K mg base k M) (aH : AllH P w K mg base k Hs)
    (hb : ∀ (kV doc pm : Value) (an : Option Addr) (cdv ct : Value) (us : List Value), us.length = ps.length → bindArgs (PySem.W.fnOf nm q pa bd sc .none kV doc pm an cdv ct) ⟨us, []⟩ = Pure.pure (ps.zip us)) : FnC P w K mg base x (k + 1) sp [] := by
  obtain ⟨fd, F⟩ := F
  exact ⟨_, fd, ps, [], def_ok F hS n len hc pure aG aM aH, F.bindsN hb, .nil, hm, F.kp⟩
/-- what is never called -/
def spBot : Sp := fun _ _ _ _ => False
def spBotE : SpE := fun _ _ _ _ _ _ _ => False
theorem def_bot {x nm q : Str} {pa : Arguments} {bd : List Stmt} {sc : Scope} {ps : List Str}
    (F : ∃ fd, FunD K nm q pa bd sc [] [] (He.ga K x) fd) (hm : mg x = some (.ref (He.ga K x)))
    (hb : ∀ (kV doc pm : Value) (an : Option Addr) (cdv ct : Value) (us : List Value), us.length = ps.length → bindArgs (PySem.W.fnOf nm q pa bd sc .none kV doc pm an cdv ct) ⟨us, []⟩ = Pure.pure (ps.zip us)) : FnC P w K mg base x 0 spBot [] := by
  obtain ⟨fd, F⟩ := F
  exact ⟨_, fd, ps, [], ⟨fun _ _ _ _ h => h.elim, fun _ _ _ _ _ _ _ _ _ _ _ _ _ h => h.elim⟩, F.bindsN hb, .nil, hm, F.kp⟩
theorem def_botE {x : Str} {pa : Arguments} {bd : List Stmt} {sc : Scope} {ps : List Str}
    (F : ∃ fd, FunD K x x pa bd sc [] [] (He.ga K x) fd) (hm : mg x = some (.ref (He.ga K x)))
    (hb : ∀ (kV doc pm : Value) (an : Option Addr) (cdv ct : Value) (us : List Value), us.length = ps.length → bindArgs (PySem.W.fnOf x x pa bd sc .none kV doc pm an cdv ct) ⟨us, []⟩ = Pure.pure (ps.zip us)) : FnEC P w K mg base x 0 spBotE := by
  obtain ⟨fd, F⟩ := F
  exact ⟨_, fd, ps, ⟨fun _ _ _ _ _ _ _ h => h.elim, fun _ _ _ _ _ _ _ _ h => h.elim⟩, F.bindsN hb, hm, F.kp⟩
/-- .. with one default, which may be given by its name -/
theorem def_fd {x nm q kn : Str} {n : Nat} {d0 : V} {pa : Arguments} {bd : List Stmt} {sc : Scope} {N ps : List Str} {sp : Sp} {G : List (Str × GK)} {M : List (Str × Addr × Sp × List V)} {Hs : List (Str × SpE)} {t : XK → TS}
    (F : ∃ fd, FunD K nm q pa bd sc [d0] [] (He.ga K x) fd) (hm : mg x = some (.ref (He.ga K x))) (hS : scopeB N ps sc = true) (m : Nat) (len : ∀ vs H Q E, sp vs H Q E → vs.length = ps.length)
    (hc : ∀ E, cSs ⟨K, N, G, M, Hs⟩ m ⟨sc, owB sc, true, none⟩ (fun _ => E) bd = some (t E))
    (pure : ∀ vs H Q E, sp vs H Q E → t E { nx := fun _ H' => Q .non H', rt := Q } (start N vs) H) (aG : AllG P w K mg base k G) (aM : AllM P w K mg base k M) (aH : AllH P w K mg base k Hs) (hn : ps.length = n + 1)
    (h1 : ∀ (T : Addr) (kV doc pm : Value) (an : Option Addr) (cdv ct : Value) (us its : List Value), us.length = n → its.length = 1 → ∃ k, bindArgs (PySem.W.fnOf nm q pa bd sc (.ref T) kV doc pm an cdv ct) ⟨us, []⟩ = seqItems? (.ref T) >>= k ∧ k (some its.toArray) = Pure.pure (ps.zip (us ++ its)))
    (h2 : ∀ (T : Addr) (kV doc pm : Value) (an : Option Addr) (cdv ct : Value) (us its : List Value), us.length = n + 1 → its.length = 1 → ∃ k, bindArgs (PySem.W.fnOf nm q pa bd sc (.ref T) kV doc pm an cdv ct) ⟨us, []⟩ = seqItems? (.ref T) >>= k ∧ k (some its.toArray) = Pure.pure (ps.zip us))
    (h3 : ∀ (T : Addr) (kV doc pm : Value) (an : Option Addr) (cdv ct : Value) (us its ws : List Value), us.length = n → its.length = 1 → ws.length = 1 → ∃ k, bindArgs (PySem.W.fnOf nm q pa bd sc (.ref T) kV doc pm an cdv ct) ⟨us, [kn].zip ws⟩ = seqItems? (.ref T) >>= k ∧ k (some its.toArray) = Pure.pure (ps.zip (us ++ ws))) :
    FnDC P w K mg base x (k + 1) (spD n d0 sp) [(kn, spKw n sp)] := by
  obtain ⟨fd, F⟩ := F
  have b1 := F.binds1 (ps := ps) n 0 (fun z => nomatch z) (by rw [hn]; rfl) fun T kV doc pm an cdv ct us its hu hi => by
    obtain ⟨k, e1, e2⟩ := h1 T kV doc pm an cdv ct us its hu hi
    exact ⟨k, e1, e2⟩
  have b2 := F.binds1 (ps := ps) (n + 1) 1 (fun z => nomatch z) (by rw [hn]; rfl) fun T kV doc pm an cdv ct us its hu hi => by
    obtain ⟨k, e1, e2⟩ := h2 T kV doc pm an cdv ct us its hu hi
    refine ⟨k, e1, ?_⟩
    rw [List.drop_of_length_le (by rw [hi]; exact Nat.le_refl _), List.append_nil]
    exact e2
  refine ⟨_, fd, ps, sp, def_ok F hS m len hc pure aG aM aH, ⟨fun vs H Q E h => ?_, fun kn' spk hl => ?_⟩, hm, F.kp⟩
  · rcases h with ⟨_, h⟩ | ⟨_, h⟩
    · obtain ⟨ds, v, b⟩ := b2
      exact ⟨[], ds, b, v, by rw [List.append_nil]; exact h⟩
    · obtain ⟨ds, v, b⟩ := b1
      exact ⟨[d0], ds, b, v, h⟩
  · rw [List.lookup_cons] at hl
    cases q : kn' == kn with
    | false =>
      rw [q] at hl
      cases hl
    | true =>
      rw [q] at hl
      cases hl
      have e := eq_of_beq q
      subst e
      refine ⟨n, (· ++ ·), (· ++ ·), ⟨fun s us ws X l1 l2 => ?_, fun r1 r2 => r1.append r2⟩, fun vs zs H Q E h => h⟩
      obtain ⟨oc, od, dV, kV, doc, pm, an, cdv, ct, osl, rfl, lk, hcd, hD, hK⟩ := F.ex
      rcases hD with ⟨e, _⟩ | ⟨_, T, o, its, m', rfl, lT, oT, rT⟩
      · cases e
      · obtain ⟨k, e1, e2⟩ := h3 T kV doc pm an cdv ct us its ws l1 rT.length.symm l2
        refine BindsTo.of_looks fun M => ?_
        rw [e1]
        exact looks_items X lT oT (.of_pure e2)
theorem def_cl {x nm q : Str} {C f : Addr} {pa : Arguments} {bd : List Stmt} {sc : Scope} {N ps : List Str} {sp : Sp} {G : List (Str × GK)} {M : List (Str × Addr × Sp × List V)} {Hs : List (Str × SpE)} {t : XK → TS}
    (F : ∃ fd, FunD K nm q pa bd sc [] [] f fd) (hm : mg x = some (.ref C)) (mk : Mk K C f) (hS : scopeB N ps sc = true) (n : Nat) (len : ∀ vs H Q E, sp vs H Q E → vs.length = ps.length)
    (hc : ∀ E, cSs ⟨K, N, G, M, Hs⟩ n ⟨sc, owB sc, true, none⟩ (fun _ => E) bd = some (t E))
    (pure : ∀ vs H Q E, sp vs H Q E → t E { nx := fun _ H' => Q .non H', rt := Q } (start N vs) H) (aG : AllG P w K mg base k G) (aM : AllM P w K mg base k M) (aH : AllH P w K mg base k Hs)
    (hb : ∀ (kV doc pm : Value) (an : Option Addr) (cdv ct : Value) (us : List Value), us.length = ps.length → bindArgs (PySem.W.fnOf nm q pa bd sc .none kV doc pm an cdv ct) ⟨us, []⟩ = Pure.pure (ps.zip us)) : ClC P w K mg base x C (k + 1) sp [] := by
  obtain ⟨fd, F⟩ := F
  exact ⟨_, fd, ps, [], def_ok F hS n len hc pure aG aM aH, F.bindsN hb, .nil, hm, mk⟩
theorem def_me {m nm q : Str} {C f : Addr} {pa : Arguments} {bd : List Stmt} {sc : Scope} {N ps : List Str} {sp : Sp} {G : List (Str × GK)} {M : List (Str × Addr × Sp × List V)} {Hs : List (Str × SpE)} {t : XK → TS}
    (F : ∃ fd, FunD K nm q pa bd sc [] [] f fd) (c : Cls K C) (me : Meth K C m f) (hS : scopeB N ps sc = true) (n : Nat) (len : ∀ vs H Q E, sp vs H Q E → vs.length = ps.length)
    (hc : ∀ E, cSs ⟨K, N, G, M, Hs⟩ n ⟨sc, owB sc, true, none⟩ (fun _ => E) bd = some (t E))
    (pure : ∀ vs H Q E, sp vs H Q E → t E { nx := fun _ H' => Q .non H', rt := Q } (start N vs) H) (aG : AllG P w K mg base k G) (aM : AllM P w K mg base k M) (aH : AllH P w K mg base k Hs)
    (hb : ∀ (kV doc pm : Value) (an : Option Addr) (cdv ct : Value) (us : List Value), us.length = ps.length → bindArgs (PySem.W.fnOf nm q pa bd sc .none kV doc pm an cdv ct) ⟨us, []⟩ = Pure.pure (ps.zip us)) : MeC P w K mg base m C (k + 1) sp [] := by
  obtain ⟨fd, F⟩ := F
  exact ⟨_, fd, ps, [], def_ok F hS n len hc pure aG aM aH, F.bindsN hb, .nil, c, me⟩
end
/-- a law's end: what may be let out hangs on the world -/
theorem walk_ofW {l : PySem.W.OpenLaw} {n k : Nat} {q : Program} {loose : List Str} {XP : (Str → Option Value) → Heap → Prop} {YP : World → Heap → Prop} {d : DefRec} {x : Str}
    (hn : l.most = some n) (hn2 : n ≤ sizeLine) (hdf : d.params.defaults = []) (hr : Room k callerA)
    (F : ∀ (w : World) (mg : Str → Option Value) (fa : Addr) (h : Heap), YP w h → h.Ns mainGlobals mg → mg d.name = some (.ref fa) →
      ∃ (K : PySem.W.Frag) (fd : FuncData) (sp : Sp), K.In h ∧ (∀ (s : Shared) (u : Value), BindsTo s fd ⟨[u], []⟩ [(x, u)]) ∧
        (∀ (H : Hp) (a : Addr) (ns : List Int), ns.length ≤ n → Only H → SqL K H a (ns.map V.int) → sp [.ref a] H (fun v _ => v = .bl true) fun _ _ _ => False) ∧
        ∀ base : Heap, K.In base → base.Ns mainGlobals mg → FnOkG l.prog w K mg base (L2N.CX l.prog w) k fa fd [x] sp) :
    PySem.W.WalkO q loose XP YP l.row.toRowW d [] (fun f vs => PySem.call f vs) := by
  refine Att.attach_call hn hdf fun w s₀ s₁ mg mb fa o pm cd doc a vs ns G Y ho hd hcd hmg hobj hints hlen hg => ?_
  obtain ⟨K, fd, sp, KX, hb, hsp, hF⟩ := F w mg fa _ Y G.T.g hmg
  exact law_callG KX G.T.g G.T.b G.T.builtins G.T.nolimit hg hobj hints (Nat.le_trans hlen hn2) ⟨hr, rfl⟩ hF hb (fun H hO hS => hsp H a ns hlen hO hS) fun H e s' z => by
    obtain ⟨_, _, _, _, _, _, _, _, _, _, _, _, z⟩ := z
    exact z.elim
end Rf
namespace Rf
open PySem L2 PySem.Spec PyProof.Rows
/-! ### facts about own exception classes, as Booleans (for hookX) -/
def vInit : Option Value → Bool
  | some (.builtin n) => decide (n = "ValueError.__init__")
  | _ => false
def cFoundB : Option PySem.W.CFound → Bool
  | some (.val (.builtin n)) => decide (n = "ValueError.__init__")
  | _ => false
theorem cFoundB_ok {o : Option PySem.W.CFound} (h : cFoundB o = true) : o = some (.val (.builtin "ValueError.__init__")) := by
  unfold cFoundB at h
  split at h
  · rw [of_decide_eq_true h]
  · cases h
/-- a method that a class has from its base -/
def sameM (K : PySem.W.Frag) (C' C : Addr) (m : Str) : Bool := decide (He.ma K C' m = He.ma K C m)
theorem sameM_ok {K : PySem.W.Frag} {C' C D : Addr} {m : Str} (h : sameM K C' C m = true) (me : Meth K D m (He.ma K C' m)) : Meth K D m (He.ma K C m) := (of_decide_eq_true h : He.ma K C' m = He.ma K C m) ▸ me
/-- the base class -/
def bexB (K : PySem.W.Frag) (C : Addr) : Bool := decide (PySem.W.specialIn K (.ref C) "__getattribute__" = some (some (.builtin "type.__getattribute__"))) && (PySem.W.readsIn K C (.type "type") && (decide (PySem.W.typeIn K (.ref C) = some (.type "type")) && cFoundB (PySem.W.findCls K (.ref C) (.type "type") "__init__")))
theorem bexB_ok {K : PySem.W.Frag} {C : Addr} (h : bexB K C = true) : BaseE K C := by
  obtain ⟨h1, h⟩ := Bool.and_eq_true_iff.mp h
  obtain ⟨h2, h⟩ := Bool.and_eq_true_iff.mp h
  obtain ⟨h3, h4⟩ := Bool.and_eq_true_iff.mp h
  exact ⟨of_decide_eq_true h1, h2, of_decide_eq_true h3, cFoundB_ok h4⟩
def oexO (C : Addr) : Option Obj → Bool
  | some ⟨.type "type", _, .cls cd, sl⟩ => (match cd.mro, sl.toList with
    | .ref C' :: bm, [_, _, _, _, some (.builtin n), _] => decide (C' = C) && (decide (n = "ValueError.__new__") && (cd.hasDict && (!cd.hasDel && PySem.HandSPX.refsVE bm)))
    | _, _ => false)
  | _ => false
def oexB (K : PySem.W.Frag) (C : Addr) : Bool := oexO C (K.lookup C) && (decide (PySem.W.findIn K (.ref C) "__setattr__" = some (some (.builtin "object.__setattr__"))) && (decide (PySem.W.subIn K (.ref C) (.type "BaseException") = some true) && (decide (PySem.W.typeIn K (.ref C) = some (.type "type")) && PySem.W.keepIn K (.ref C))))
theorem oexB_ok {K : PySem.W.Frag} {C : Addr} (h : oexB K C = true) : OexC K C := by
  obtain ⟨h1, h⟩ := Bool.and_eq_true_iff.mp h
  obtain ⟨h2, h⟩ := Bool.and_eq_true_iff.mp h
  obtain ⟨h3, h⟩ := Bool.and_eq_true_iff.mp h
  obtain ⟨h4, h5⟩ := Bool.and_eq_true_iff.mp h
  refine ⟨?_, of_decide_eq_true h2, of_decide_eq_true h3, of_decide_eq_true h4, h5⟩
  unfold oexO at h1
  split at h1
  · rename_i dd cd sl ho
    split at h1
    · rename_i C' bm k0 k1 k2 k3 n k5 hm hs
      simp only [Bool.and_eq_true, decide_eq_true_eq, Bool.not_eq_true'] at h1
      obtain ⟨rfl, rfl, hdi, hdel, hr⟩ := h1
      obtain ⟨nm, bs, mro, ns, qn, hd, sn, sub, ab, col, del⟩ := cd
      dsimp only at hm hdel hdi
      subst hm hdel hdi
      have hsl : sl = #[k0, k1, k2, k3, some (.builtin "ValueError.__new__"), k5] := by
        obtain ⟨l⟩ := sl
        simp only at hs
        rw [hs]
      subst hsl
      exact ⟨nm, qn, ns, bs, bm, sn, sub, ab, col, dd, k0, k1, k2, k3, k5, ho, hr⟩
    · cases h1
  · cases h1
def exInitB (K : PySem.W.Frag) (C : Addr) : Bool := decide (PySem.W.findIn K (.ref C) "__init__" = some (some (.ref (He.ma K C "__init__")))) && decide (PySem.W.typeIn K (.ref (He.ma K C "__init__")) = some (.type "function"))
section
variable {P : Program} {w : World} {K : PySem.W.Frag} {mg : Str → Option Value} {base : Heap} {k : Nat}
/-- an own exception class with its own __init__ -/
theorem def_ex {x nm q : Str} {C f : Addr} {pa : Arguments} {bd : List Stmt} {sc : Scope} {N ps : List Str} {sp : Sp} {G : List (Str × GK)} {M : List (Str × Addr × Sp × List V)} {Hs : List (Str × SpE)} {t : XK → TS}
    (F : ∃ fd, FunD K nm q pa bd sc [] [] f fd) (hm : mg x = some (.ref C)) (T : OexC K C) (iC : PySem.W.findIn K (.ref C) "__init__" = some (some (.ref f))) (tI : PySem.W.typeIn K (.ref f) = some (.type "function")) (hS : scopeB N ps sc = true) (n : Nat) (len : ∀ vs H Q E, sp vs H Q E → vs.length = ps.length)
    (hc : ∀ E, cSs ⟨K, N, G, M, Hs⟩ n ⟨sc, owB sc, true, none⟩ (fun _ => E) bd = some (t E))
    (pure : ∀ vs H Q E, sp vs H Q E → t E { nx := fun _ H' => Q .non H', rt := Q } (start N vs) H) (aG : AllG P w K mg base k G) (aM : AllM P w K mg base k M) (aH : AllH P w K mg base k Hs)
    (hb : ∀ (kV doc pm : Value) (an : Option Addr) (cdv ct : Value) (us : List Value), us.length = ps.length → bindArgs (PySem.W.fnOf nm q pa bd sc .none kV doc pm an cdv ct) ⟨us, []⟩ = Pure.pure (ps.zip us)) : ExC P w K mg base x C (k + 1) sp [] := by
  obtain ⟨fd, F⟩ := F
  exact ⟨_, fd, ps, [], def_ok F hS n len hc pure aG aM aH, F.bindsN hb, .nil, hm, T, iC, tI⟩
end
/-- one exception class's facts -/
theorem exInitB_ok {K : PySem.W.Frag} {C : Addr} (h : exInitB K C = true) : PySem.W.findIn K (.ref C) "__init__" = some (some (.ref (He.ma K C "__init__"))) ∧ PySem.W.typeIn K (.ref (He.ma K C "__init__")) = some (.type "function") := by
  obtain ⟨h1, h2⟩ := Bool.and_eq_true_iff.mp h
  exact ⟨of_decide_eq_true h1, of_decide_eq_true h2⟩
/-! ### an observation that sees the interpreter's own table, too -/
abbrev AlY : Type := He.AlD × Bool
def asY (g : Addr → Option Obj) (n : Nat) : List Addr := cStatics :: He.asD g n
def obsY (n : Nat) (fa : List He.Fa) (fn : List He.DefD) (ex : PySem.W.Frag → Bool) (g : Addr → Option Obj) : AlY := (He.obsD fa fn (He.frG g (asY g n)), ex (He.frG g (asY g n)))
def valY (fn : List He.DefD) : AlY := (He.valD fn, true)
structure SaysY (fa : List He.Fa) (fn : List He.DefD) (ex : PySem.W.Frag → Bool) (K : PySem.W.Frag) : Prop where
  d : He.SaysD fa fn K
  more : ex K = true
def hookY (n : Nat) (fa : List He.Fa) (fn : List He.DefD) (ex : PySem.W.Frag → Bool) : PySem.W.Hook where
  α := AlY
  obs := fun s => obsY n fa fn ex s.heap.get?
  val := fun _ => valY fn
  says := fun _ h => ∃ K : PySem.W.Frag, K.In h ∧ SaysY fa fn ex K
  of := fun _ _ e => ⟨_, He.frG_in, congrArg (fun z : AlY => z.1) e, congrArg (fun z : AlY => z.2) e⟩
  keeps := fun _ _ _ ⟨K, hK, c⟩ k => ⟨K, PySem.W.Frag.In.keeps hK k, c⟩
theorem obsY_eq {n : Nat} {fa : List He.Fa} {fn : List He.DefD} {ex : PySem.W.Frag → Bool} {g : Addr → Option Obj} {s : Shared} (h : ∀ a, g a = s.heap.get? a) : obsY n fa fn ex g = (hookY n fa fn ex).obs s := by
  obtain rfl : g = s.heap.get? := funext h
  rfl
/-! ### the classes of refusals: what is asked of them -/
def isCB (K : PySem.W.Frag) (D : Addr) : Bool := (PySem.W.clsIn K D).isSome && (decide (PySem.W.findIn K (.ref D) "__getattribute__" = some (some (.builtin "BaseException.__getattribute__"))) && (decide (PySem.W.findIn K (.ref D) "__getattr__" = some none) &&
  (decide (PySem.W.subIn K (.ref D) (.type "BaseException") = some true) && (decide (PySem.W.findIn K (.ref D) "__class__" = some (some (.builtin "object.__class__"))) && (decide (PySem.W.specialIn K (.builtin "object.__class__") "__get__" = some (some (.builtin "getset_descriptor.__get__"))) &&
  (decide (PySem.W.takesIn K (.builtin "object.__class__") = some true) && (decide (PySem.W.mroIn K D (.type "object") = some true) && PySem.W.hasDictIn K D)))))))
theorem isCB_ok {K : PySem.W.Frag} {D : Addr} (h : isCB K D = true) : IsC K D := by
  unfold isCB at h
  simp only [Bool.and_eq_true, decide_eq_true_eq] at h
  obtain ⟨h1, h2, h3, h4, h5, h6, h7, h8, h9⟩ := h
  exact ⟨h1, h2, h3, h4, h5, h6, h7, h8, h9⟩
def fdB (K : PySem.W.Frag) (C : Addr) (f : Str) : Bool := xfB K C && decide (PySem.W.findIn K (.ref C) f = some none)
abbrev Errs := List (Str × List Str)
structure ErrK (K : PySem.W.Frag) (errs : Errs) (tests : List Str) : Prop where
  oex : ∀ e ∈ errs, OexC K (He.ga K e.1)
  isc : ∀ e ∈ errs, IsC K (He.ga K e.1)
  fd : ∀ e ∈ errs, ∀ f ∈ e.2, FdC K (He.ga K e.1) f
  kit : ∀ e ∈ errs, ∀ t ∈ tests, PySem.W.kitOne K (.ref (He.ga K e.1)) (.ref (He.ga K t)) = some (decide (e.1 = t))
  cut : ∀ e ∈ errs, PySem.W.kitOne K (.ref (He.ga K e.1)) (.ref (He.ga K "CutError")) = some true
  val : ∀ e ∈ errs, PySem.W.kitOne K (.ref (He.ga K e.1)) (.type "ValueError") = some true
  exm : ∀ e ∈ errs, PySem.W.exmOne K (.ref (He.ga K e.1)) (.ref (He.ga K "CutError")) = some true
theorem ErrK.na {K : PySem.W.Frag} {errs : Errs} {tests : List Str} (h : ErrK K errs tests) {e : Str × List Str} (he : e ∈ errs) {f : Str} (hf : f ∈ e.2) : NoAttr K (He.ga K e.1) f := (h.fd e he f hf).no
/-- a raised class is taken by another class's clause -/
def ExmK (K : PySem.W.Frag) (a b : Str) : Prop := PySem.W.exmOne K (.ref (He.ga K a)) (.ref (He.ga K b)) = some true
def errB (K : PySem.W.Frag) (errs : Errs) (tests : List Str) : Bool := errs.all fun e => oexB K (He.ga K e.1) && (isCB K (He.ga K e.1) && (e.2.all (fun f => fdB K (He.ga K e.1) f) && (tests.all (fun t => decide (PySem.W.kitOne K (.ref (He.ga K e.1)) (.ref (He.ga K t)) = some (decide (e.1 = t)))) &&
  (decide (PySem.W.kitOne K (.ref (He.ga K e.1)) (.ref (He.ga K "CutError")) = some true) && (decide (PySem.W.kitOne K (.ref (He.ga K e.1)) (.type "ValueError") = some true) && decide (PySem.W.exmOne K (.ref (He.ga K e.1)) (.ref (He.ga K "CutError")) = some true))))))
theorem errB_ok {K : PySem.W.Frag} {errs : Errs} {tests : List Str} (h : errB K errs tests = true) : ErrK K errs tests := by
  have a : ∀ e ∈ errs, _ := List.all_eq_true.mp h
  simp only [Bool.and_eq_true, decide_eq_true_eq] at a
  refine ⟨fun e he => oexB_ok (a e he).1, fun e he => isCB_ok (a e he).2.1, fun e he f hf => ?_, fun e he t ht => ?_, fun e he => (a e he).2.2.2.2.1, fun e he => (a e he).2.2.2.2.2.1, fun e he => (a e he).2.2.2.2.2.2⟩
  · have q := List.all_eq_true.mp (a e he).2.2.1 f hf
    unfold fdB at q
    simp only [Bool.and_eq_true, decide_eq_true_eq] at q
    exact ⟨xfB_ok q.1, q.2⟩
  · exact of_decide_eq_true (List.all_eq_true.mp (a e he).2.2.2.1 t ht)
/-! ### isinstance of an own object -/
structure InsF (K : PySem.W.Frag) (C : Addr) : Prop where
  a : PySem.W.findIn K (.ref C) "__class__" = some (some (.builtin "object.__class__"))
  b : PySem.W.specialIn K (.builtin "object.__class__") "__get__" = some (some (.builtin "getset_descriptor.__get__"))
  c : PySem.W.takesIn K (.builtin "object.__class__") = some true
  d : PySem.W.mroIn K C (.type "object") = some true
theorem class_get (K : PySem.W.Frag) : PySem.W.specialIn K (.builtin "object.__class__") "__get__" = some (some (.builtin "getset_descriptor.__get__")) := by kernel_rfl
theorem class_takes (K : PySem.W.Frag) : PySem.W.takesIn K (.builtin "object.__class__") = some true := by kernel_rfl
def insB (K : PySem.W.Frag) (C : Addr) : Bool := decide (PySem.W.findIn K (.ref C) "__class__" = some (some (.builtin "object.__class__"))) && decide (PySem.W.mroIn K C (.type "object") = some true)
theorem insB_ok {K : PySem.W.Frag} {C : Addr} (h : insB K C = true) : InsF K C := by
  obtain ⟨h1, h4⟩ := Bool.and_eq_true_iff.mp h
  exact ⟨of_decide_eq_true h1, class_get K, class_takes K, of_decide_eq_true h4⟩
theorem isiOwn {K : PySem.W.Frag} {H : Hp} {x C S dx : Addr} {fs : List (Str × V)} {b : Bool} {Q : VK} (ho : H x = some (.ins C dx fs)) (c : Cls K C) (i : InsF K C) (k : PySem.W.kitOne K (.ref C) (.ref S) = some b) (q : Q (.bl b) H) : rIsiU K [.ref x, .ref S] H Q := by
  unfold rIsiU
  exact .inl ⟨_, _, _, _, b, rfl, .own _, .base (.ins ho c i.a i.b i.c i.d), k, q⟩
/-- of a step's classes: which is which -/
def kitSB (K : PySem.W.Frag) : Bool := (["Move", "Swap"] : List Str).all fun c => (["Step", "Move", "Swap"] : List Str).all fun t => decide (PySem.W.kitOne K (.ref (He.ga K c)) (.ref (He.ga K t)) = some (decide (t = "Step") || decide (c = t)))
theorem kitSB_ok {K : PySem.W.Frag} (h : kitSB K = true) {c t : Str} (hc : c ∈ (["Move", "Swap"] : List Str)) (ht : t ∈ (["Step", "Move", "Swap"] : List Str)) : PySem.W.kitOne K (.ref (He.ga K c)) (.ref (He.ga K t)) = some (decide (t = "Step") || decide (c = t)) :=
  of_decide_eq_true (List.all_eq_true.mp (List.all_eq_true.mp h c hc) t ht)
/-- isinstance(x, (C1, C2, ..)) of an own object -/
theorem isiOwnT {K : PySem.W.Frag} {H : Hp} {x C dx tp : Addr} {fs : List (Str × V)} {Cs : List Addr} {b : Bool} {Q : VK} (ho : H x = some (.ins C dx fs)) (c : Cls K C) (i : InsF K C) (htp : H tp = some (.tup (Cs.map V.ref))) (k : PySem.W.kitAny K (.ref C) (Cs.map Value.ref) = some b) (q : Q (.bl b) H) : rIsiU K [.ref x, .ref tp] H Q := by
  have pc : ∀ l : List Addr, Paired ClsV (l.map V.ref) (l.map Value.ref) := fun l => by
    induction l with
    | nil => exact .nil
    | cons a l ih => exact .cons (.own a) ih
  unfold rIsiU
  exact .inr ⟨_, tp, _, _, _, b, rfl, htp, pc Cs, .base (.ins ho c i.a i.b i.c i.d), k, q⟩
end Rf
/-! Small rules for reading readings. -/
namespace Rf
open PySem L2 PySem.Spec PyProof.Rows
theorem cutW {t u : TS} {D : Ends} {σ : L2.St} {H : Hp} (R : L2.St → Prop) (h1 : t { D with nx := fun σ' H' => R σ' ∧ H' = H } σ H) (h2 : ∀ σ', R σ' → u D σ' H) : tCut t u D σ H :=
  ⟨fun σ' H' => R σ' ∧ H' = H, h1, fun σ' H' ⟨r, e⟩ => by rw [e]; exact h2 σ' r⟩
theorem cutH {t u : TS} {D : Ends} {σ : L2.St} {H : Hp} (R : L2.St → Hp → Prop) (h1 : t { D with nx := R } σ H) (h2 : ∀ σ' H', R σ' H' → u D σ' H') : tCut t u D σ H := ⟨R, h1, h2⟩
theorem cutN {t u : TS} {D : Ends} {σ : L2.St} {H : Hp} (h1 : t { D with nx := u D } σ H) : tCut t u D σ H := ⟨_, h1, fun _ _ h => h⟩
theorem mulL {i j : Int} (h : -(2 ^ 64) < i ∧ i < 2 ^ 64) : CMulU i j := .inl (.inl h)
theorem mulR {i j : Int} (h : -(2 ^ 64) < j ∧ j < 2 ^ 64) : CMulU i j := .inl (.inr h)
theorem divS {i j : Int} (h : 0 < j) (h2 : j < 2 ^ 62) : CDivW i j := wide_div (b := 62) h (by omega) (by decide) (by decide)
/-- an item of a list at a place within -/
theorem atI_in {α : Type} {xs : List α} {i : Int} (h0 : 0 ≤ i) (h1 : i < xs.length) : ∃ v, atI xs i = some v ∧ v ∈ xs := by
  obtain ⟨j, rfl⟩ : ∃ j : Nat, i = j := ⟨i.toNat, by omega⟩
  have hj : j < xs.length := by omega
  exact ⟨xs[j], atI_nat (by simp [hj]), List.getElem_mem hj⟩
/-- o[i] of a list that is read -/
theorem ixL {K : PySem.W.Frag} {p : Addr} {xs : List V} {i : Int} {v : V} {H : Hp} {Q : VK} (h : SqL K H p xs) (e : atI xs i = some v) (q : Q v H) : rIxU K (.ref p) (.int i) H Q := by
  unfold rIxU
  exact .inl (.inl ⟨p, xs, i, v, rfl, rfl, h, e, q⟩)
theorem ixTk {K : PySem.W.Frag} {p : Addr} {xs : List V} {i : Int} {v : V} {H : Hp} {Q : VK} (h : H p = some (.tup xs)) (e : atI xs i = some v) (q : Q v H) : rIxU K (.ref p) (.int i) H Q := by
  unfold rIxU
  exact .inl (.inr (.inl ⟨p, xs, i, v, rfl, rfl, SqT.of h, e, q⟩))
theorem ixLk {K : PySem.W.Frag} {p : Addr} {xs : List V} {i : Int} {v : V} {H : Hp} {Q : VK} (h : H p = some (.lst xs)) (e : atI xs i = some v) (q : Q v H) : rIxU K (.ref p) (.int i) H Q := ixL (SqL.of h) e q
/-- some item of a list that is read -/
theorem ixIn {K : PySem.W.Frag} {p : Addr} {xs : List V} {i : Int} {H : Hp} {Q : VK} (h : SqL K H p xs) (h0 : 0 ≤ i) (h1 : i < xs.length) (q : ∀ v, v ∈ xs → Q v H) : rIxU K (.ref p) (.int i) H Q := by
  obtain ⟨v, e, m⟩ := atI_in h0 h1
  exact ixL h e (q v m)
theorem setLk {p : Addr} {xs : List V} {i : Int} {j : Nat} {v : V} {H : Hp} {Q : Hp → Prop} (h : H p = some (.lst xs)) (e : ixN xs.length i = some j) (q : Q (upd H p (.lst (xs.set j v)))) : rSetU (.ref p) (.int i) v H Q := by
  unfold rSetU
  exact .inl ⟨p, xs, i, j, rfl, rfl, h, e, q⟩
/-- for over what is walked, over a range, over a list -/
theorem forIt {J : It} {n : Nat} {G : Hp → Prop} {Y : Nat → Hp → V → Hp → Prop} (w : Walk J n G Y) {g : TG} {tb : TS} {D : Ends} {σ : L2.St} {H : Hp} (Pv : Nat → L2.St → Hp → Prop) (h0 : Pv 0 σ H) (hG : ∀ i σ H, i ≤ n → Pv i σ H → G H)
    (hs : ∀ i x σ H H', i < n → Pv i σ H → Y i H x H' → g x σ H' fun σ2 H2 => tb { D with nx := Pv (i + 1), ct := Pv (i + 1), bk := D.nx } σ2 H2) (hd : ∀ σ H, Pv n σ H → D.nx σ H) : forU J g tb D σ H := by
  unfold forU
  exact for_it w Pv h0 hG hs hd
theorem forR {lo : Int} {n : Nat} {g : TG} {tb : TS} {D : Ends} {σ : L2.St} {H : Hp} (Pv : Nat → L2.St → Hp → Prop) (h0 : Pv 0 σ H)
    (hs : ∀ i σ H, i < n → Pv i σ H → g (.int (lo + i)) σ H fun σ2 H2 => tb { D with nx := Pv (i + 1), ct := Pv (i + 1), bk := D.nx } σ2 H2) (hd : ∀ σ H, Pv n σ H → D.nx σ H) : forU (Itr lo n) g tb D σ H := by
  unfold forU
  exact for_range Pv h0 hs hd
theorem forL {K : PySem.W.Frag} {a : Addr} {xs : List V} {g : TG} {tb : TS} {D : Ends} {σ : L2.St} {H : Hp} (_ : SqL K H a xs) (Pv : Nat → L2.St → Hp → Prop) (h0 : Pv 0 σ H) (hl : ∀ i σ H, i ≤ xs.length → Pv i σ H → SqL K H a xs)
    (hs : ∀ i x σ H, xs[i]? = some x → Pv i σ H → g x σ H fun σ2 H2 => tb { D with nx := Pv (i + 1), ct := Pv (i + 1), bk := D.nx } σ2 H2) (hd : ∀ σ H, Pv xs.length σ H → D.nx σ H) : forU (Itl K a) g tb D σ H := by
  unfold forU
  exact for_list Pv h0 hl hs hd
/-- a list gathered over what is walked -/
theorem lcIt {J : It} {n : Nat} {G : Hp → Prop} {Y : Nat → Hp → V → Hp → Prop} (w : Walk J n G Y) {g : TG} {tt : TT} {te : TE} {vs : List Nat} {σ : L2.St} {H1 : Hp} {Q : VK}
    (h : ∀ D, H1 D = none → ∃ Pv : Nat → Hp → Prop, Pv 0 (L2.upd H1 D (.lst [])) ∧ (∀ i H, i ≤ n → Pv i H → G H) ∧ (∀ i x H H', i < n → Pv i H → Y i H x H' → g x (wipe σ vs) H' fun σ2 H2 => wipe σ2 vs = wipe σ vs ∧ tt σ2 H2 fun b H3 =>
      cnd b (te σ2 H3 fun y H4 => ∃ acc, H4 D = some (.lst acc) ∧ acc.length < sizeLine ∧ Pv (i + 1) (L2.upd H4 D (.lst (acc ++ [y])))) (Pv (i + 1) H3)) ∧ ∀ H, Pv n H → Q (.ref D) H) : lcU J g tt te vs σ H1 Q := by
  unfold lcU
  intro D hD
  obtain ⟨Pv, h0, hG, hs, hd⟩ := h D hD
  simp only [cnd_if] at hs ⊢
  exact lc_it w Pv h0 hG hs hd
theorem _root_.L2.Same.upd {H0 H : Hp} {p : Addr} {o : HO} (s : Same H0 H) (h : H0 p = none) : Same H0 (L2.upd H p o) := fun b u e => by
  rw [upd_ne (ne_of_none e h)]
  exact s b u e
theorem _root_.L2.Same.new {H0 H : Hp} {p : Addr} {o : HO} (s : Same H0 H) (h : H p = none) : Same H0 (L2.upd H p o) := L2.Same.upd s (s.free h)
/-- the same, where what stands stays: what is gathered ahead of turn i is acc i -/
theorem lcAcc {J : It} {n : Nat} {G : Hp → Prop} {Y : Nat → Hp → V → Hp → Prop} (w : Walk J n G Y) {g : TG} {tt : TT} {te : TE} {vs : List Nat} {σ : L2.St} {H1 : Hp} {Q : VK} (acc : Nat → List V) (ha : acc 0 = []) (hl : ∀ i, i < n → (acc i).length < sizeLine) (hG : ∀ H, Same H1 H → G H)
    (hs : ∀ i x H H', i < n → Same H1 H → Y i H x H' → ∀ (R : VK) (R' : Hp → Prop), (∀ y H4, Same H H4 → acc (i + 1) = acc i ++ [y] → R y H4) → (∀ H4, Same H H4 → acc (i + 1) = acc i → R' H4) →
      g x (wipe σ vs) H' fun σ2 H2 => wipe σ2 vs = wipe σ vs ∧ tt σ2 H2 fun b H3 => cnd b (te σ2 H3 R) (R' H3))
    (hd : ∀ D H, H D = some (.lst (acc n)) → Same H1 H → Q (.ref D) H) : lcU J g tt te vs σ H1 Q := by
  refine lcIt w fun D hD => ⟨fun i H => Same H1 H ∧ H D = some (.lst (acc i)), ⟨Same.new (Same.refl _) hD, by rw [ha]; exact upd_same⟩, fun i H _ p => hG H p.1, fun i x H H' hi p y => ?_, fun H p => hd D H p.2 p.1⟩
  refine hs i x H H' hi p.1 y _ _ (fun z H4 s e => ⟨acc i, s _ _ p.2, hl i hi, Same.upd (fun b u k => s _ _ (p.1 b u k)) hD, ?_⟩) (fun H4 s e => ⟨fun b u k => s _ _ (p.1 b u k), ?_⟩)
  · rw [e]; exact upd_same
  · rw [e]; exact s _ _ p.2
/-- all but the object at p is as it was -/
def But (p : Addr) (H H' : Hp) : Prop := ∀ b, b ≠ p → H' b = H b
theorem But.upd {p : Addr} {o : HO} {H : Hp} : But p H (L2.upd H p o) := fun b h => upd_ne h
theorem But.refl {p : Addr} {H : Hp} : But p H H := fun _ _ => rfl
theorem But.trans {p : Addr} {H H1 H2 : Hp} (a : But p H H1) (b : But p H1 H2) : But p H H2 := fun c h => (b c h).trans (a c h)
theorem But.updT {p : Addr} {o : HO} {H H1 : Hp} (a : But p H H1) : But p H (L2.upd H1 p o) := a.trans But.upd
theorem _root_.L2.Same.but {H0 H1 H2 : Hp} {p : Addr} (s : Same H0 H1) (h : H0 p = none) (b : But p H1 H2) : Same H0 H2 := fun c o e => (b c (ne_of_none e h)).trans (s c o e)
theorem But.at {p q : Addr} {H H' : Hp} {o : HO} (b : But p H H') (h : H q = some o) (ne : q ≠ p) : H' q = some o := (b q ne).trans h
theorem But.none {p q : Addr} {H H' : Hp} {o : HO} (b : But p H H') (hp : H p = some o) (h : H' q = none) (hp' : H' p ≠ none) : H q = none := by
  by_cases e : q = p
  · rw [e] at h; exact absurd h hp'
  · rw [← b q e]; exact h
/-! ### a value's kind -/
theorem TyX.mono {K : PySem.W.Frag} {H H' : Hp} {v : V} {t : Value} (s : Same H H') (h : TyX K H v t) : TyX K H' v t := by
  cases h with
  | base b =>
    refine .base ?_
    cases b with
    | non => exact .non
    | bl x => exact .bl x
    | int i => exact .int i
    | str x => exact .str x
    | flt x => exact .flt x
    | lst e => exact .lst (s _ _ e)
    | frz e => exact .frz (s _ _ e)
    | tup e => exact .tup (s _ _ e)
    | dK e => exact .dK (s _ _ e)
    | dT e => exact .dT (s _ _ e)
    | ins e a b c d f => exact .ins (s _ _ e) a b c d f
  | byt b => exact .byt b
  | set e => exact .set (s _ _ e)
  | kList e c => exact .kList e c
  | kTuple e c => exact .kTuple e c
  | kDict e c => exact .kDict e c
  | fTuple e => exact .fTuple (s _ _ e)
  | fDict e => exact .fDict (s _ _ e)
theorem TyY.mono {K : PySem.W.Frag} {H H' : Hp} {v : V} {t : Value} (s : Same H H') (h : TyY K H v t) : TyY K H' v t := by
  cases h with
  | base b => exact .more (TyX.mono s (.base b))
  | more b => exact .more (TyX.mono s b)
  | odd e => exact .odd (s _ _ e)
def TyN (K : PySem.W.Frag) (H : Hp) (v : V) (t : String) : Prop := match v with
  | .int _ => t = "int"
  | .bl _ => t = "bool"
  | .str _ => t = "str"
  | .non => t = "NoneType"
  | .ref p => (t = "list" ∨ t = "tuple" ∨ t = "dict") ∧ TyY K H (.ref p) (.type t)
  | _ => False
theorem TyN.mono {K : PySem.W.Frag} {H H' : Hp} {v : V} {t : String} (s : Same H H') (h : TyN K H v t) : TyN K H' v t := by
  cases v <;> first | exact h | exact ⟨h.1, TyY.mono s h.2⟩
theorem TyN.lst {K : PySem.W.Frag} {H : Hp} {p : Addr} {xs : List V} (h : H p = some (.lst xs)) : TyN K H (.ref p) "list" := ⟨.inl rfl, .base (.lst h)⟩
theorem TyN.tup {K : PySem.W.Frag} {H : Hp} {p : Addr} {xs : List V} (h : H p = some (.tup xs)) : TyN K H (.ref p) "tuple" := ⟨.inr (.inl rfl), .base (.tup h)⟩
theorem TyN.dK {K : PySem.W.Frag} {H : Hp} {p : Addr} {xs : List (Key × V)} (h : H p = some (.dK xs)) : TyN K H (.ref p) "dict" := ⟨.inr (.inr rfl), .base (.dK h)⟩
theorem TyN.odd {K : PySem.W.Frag} {H : Hp} {p : Addr} {n : Nat} {nn : Bool} (h : H p = some (oddO p n nn)) : TyN K H (.ref p) "dict" := ⟨.inr (.inr rfl), .odd h⟩
theorem TyN.isL {K : PySem.W.Frag} {H : Hp} {v : V} {t : String} (h : TyN K H v t) : isL1.contains t = true := by
  cases v <;> first | exact False.elim h | skip
  · have e : t = "NoneType" := h; subst e; decide +kernel
  · have e : t = "bool" := h; subst e; decide +kernel
  · have e : t = "int" := h; subst e; decide +kernel
  · have e : t = "str" := h; subst e; decide +kernel
  · rcases h.1 with e | e | e <;> (subst e; decide +kernel)
theorem isiN {K : PySem.W.Frag} {H : Hp} {v : V} {t T : String} {b : Bool} {Q : VK} (h : TyN K H v t) (e : isO t T = some b) (q : Q (.bl b) H) : rIsiU K [v, .ty T] H Q := by
  unfold rIsiU
  cases v <;> first | exact False.elim h | skip
  · have e1 : t = "NoneType" := h; subst e1; exact ⟨b, e, q⟩
  · have e1 : t = "bool" := h; subst e1; exact ⟨b, e, q⟩
  · have e1 : t = "int" := h; subst e1; exact ⟨b, e, q⟩
  · have e1 : t = "str" := h; subst e1; exact ⟨b, e, q⟩
  · exact ⟨t, h.2, b, e, q⟩
/-- is it an int that is no truth, a text -/
theorem TyN.int_or {K : PySem.W.Frag} {H : Hp} {v : V} {t : String} (h : TyN K H v t) : (∃ i, v = .int i ∧ t = "int") ∨ ((∀ i, v ≠ .int i) ∧ ((isO t "int" = some false) ∨ (isO t "int" = some true ∧ isO t "bool" = some true))) := by
  cases v <;> first | exact False.elim h | skip
  · have e : t = "NoneType" := h; subst e; exact .inr ⟨fun i => by simp, .inl (by decide +kernel)⟩
  · have e : t = "bool" := h; subst e; exact .inr ⟨fun i => by simp, .inr ⟨by decide +kernel, by decide +kernel⟩⟩
  · have e : t = "int" := h; exact .inl ⟨_, rfl, e⟩
  · have e : t = "str" := h; subst e; exact .inr ⟨fun i => by simp, .inl (by decide +kernel)⟩
  · rcases h.1 with e | e | e <;> (subst e; exact .inr ⟨fun i => by simp, .inl (by decide +kernel)⟩)
theorem TyN.str_or {K : PySem.W.Frag} {H : Hp} {v : V} {t : String} (h : TyN K H v t) : (∃ z, v = .str z ∧ t = "str") ∨ ((∀ z, v ≠ .str z) ∧ isO t "str" = some false) := by
  cases v <;> first | exact False.elim h | skip
  · have e : t = "NoneType" := h; subst e; exact .inr ⟨fun i => by simp, by decide +kernel⟩
  · have e : t = "bool" := h; subst e; exact .inr ⟨fun i => by simp, by decide +kernel⟩
  · have e : t = "int" := h; subst e; exact .inr ⟨fun i => by simp, by decide +kernel⟩
  · have e : t = "str" := h; exact .inl ⟨_, rfl, e⟩
  · rcases h.1 with e | e | e <;> (subst e; exact .inr ⟨fun i => by simp, by decide +kernel⟩)
theorem lg {n k : Nat} {m : Nat} (h : n < 2 ^ k) (hk : k ≤ m) (h0 : 0 < m := by decide) : n.log2 < m := by
  by_cases e : n = 0
  · rw [e]; simpa using h0
  · exact Nat.lt_of_lt_of_le ((Nat.log2_lt e).2 h) hk
/-! ### texts -/
theorem len_app (a b : Str) : (a ++ b).length = a.length + b.length := by
  show (a.cps ++ b.cps).size = _
  rw [Array.size_append]
  rfl
theorem cps_app (a b : Str) : (a ++ b).cps.toList = a.cps.toList ++ b.cps.toList := by
  show (a.cps ++ b.cps).toList = _
  exact Array.toList_append
theorem len_cut (z : Str) (lo hi : Option Int) : (cutS z lo hi).length ≤ z.length := by
  unfold cutS
  show ((z.cps.toList.drop _).take _).toArray.size ≤ z.cps.size
  rw [List.size_toArray, List.length_take, List.length_drop, Array.length_toList]
  omega
theorem str_len (z : Str) : z.cps.toList.length = z.length := Array.length_toList
/-- an item of a text -/
theorem ixS {K : PySem.W.Frag} {z : Str} {i : Int} {c : Nat} {H : Hp} {Q : VK} (hl : z.length ≤ sizeLine) (e : atI z.cps.toList i = some c) (q : Q (.str ⟨#[c]⟩) H) : rIxU K (.str z) (.int i) H Q := by
  unfold rIxU
  exact .inl (.inr (.inr ⟨z, i, c, rfl, rfl, hl, e, q⟩))
theorem ixSIn {K : PySem.W.Frag} {z : Str} {i : Int} {H : Hp} {Q : VK} (hl : z.length ≤ sizeLine) (h0 : 0 ≤ i) (h1 : i < z.length) (q : ∀ c, c ∈ z.cps.toList → Q (.str ⟨#[c]⟩) H) : rIxU K (.str z) (.int i) H Q := by
  obtain ⟨v, e, m⟩ := atI_in (xs := z.cps.toList) h0 (by rw [str_len]; exact h1)
  exact ixS hl e (q v m)
theorem slS {K : PySem.W.Frag} {z : Str} {lo hi : Option Int} {H : Hp} {Q : VK} (hl : z.length ≤ sizeLine) (q : Q (.str (cutS z lo hi)) H) : rSlU K (.str z) lo hi H Q := by
  unfold rSlU
  exact .inr (.inl ⟨z, rfl, hl, q⟩)
/- one step of a reading; tests that are decided are passed -/
theorem sameOf {H H' : Hp} {l : Addr} {o : HO} (n : H l = none) (h : L2.upd H l o = H') : Same H H' := h ▸ Same.new (Same.refl _) n
theorem atOf {H H' : Hp} {l : Addr} {o : HO} (h : L2.upd H l o = H') : H' l = some o := h ▸ upd_same
theorem butOf {H H' : Hp} {l : Addr} {o : HO} (h : L2.upd H l o = H') : But l H H' := h ▸ But.upd
/- a new object, and what is kept; an object's change -/
theorem _root_.L2.Same.get {H H' : Hp} {a : Addr} {o : HO} (s : Same H H') (h : H a = some o) : H' a = some o := s _ _ h
/- what stood still stands -/
theorem some_ne {H : Hp} {a : Addr} {o : HO} (h : H a = some o) : H a ≠ none := by rw [h]; simp
theorem _root_.L2.Same.getN {H H' : Hp} {a : Addr} (s : Same H H') (h : H a ≠ none) : H' a ≠ none := by
  cases e : H a with
  | none => exact absurd e h
  | some o => rw [s _ _ e]; simp
theorem ne_n {H : Hp} {a b : Addr} (h : H a ≠ none) (n : H b = none) : a ≠ b := fun e => h (e ▸ n)
/- both ways of a test -/
/-- and-chains of truths -/
theorem onB_bl {b : Bool} {Q : Bool → Prop} (h : Q b) : onB (.bl b) Q := h
/-- a list gathered over a text, over a list -/
theorem lcStr {z : Str} (f : Nat → V) {g : TG} {te : TE} {vs : List Nat} {σ : L2.St} {H1 : Hp} {Q : VK} (hz : z.length ≤ 20000)
    (hs : ∀ c H, Same H1 H → ∀ R : VK, (∀ H4, Same H H4 → R (f c) H4) → g (.str ⟨#[c]⟩) (wipe σ vs) H fun σ2 H2 => wipe σ2 vs = wipe σ vs ∧ te σ2 H2 R)
    (hd : ∀ D H, H D = some (.lst (z.cps.toList.map f)) → Same H1 H → Q (.ref D) H) : lcU (Its z) g tYes te vs σ H1 Q := by
  have hn : z.cps.size ≤ 20000 := hz
  refine lcAcc walk_str (fun i => (z.cps.toList.take i).map f) rfl (fun i hi => ?_) (fun _ _ => trivial) (fun i x H H' hi s y R R' r r' => ?_) (fun D H hD s => hd D H ?_ s)
  · rw [sizeLine_eq, List.length_map, List.length_take]; omega
  · obtain ⟨rfl, c, hc, rfl⟩ := y
    have e : (z.cps.toList.take (i + 1)).map f = (z.cps.toList.take i).map f ++ [f c] := by
      rw [List.take_add_one, Array.getElem?_toList, hc, List.map_append]
      rfl
    have q := hs c H' s R fun H4 s4 => r _ _ s4 e
    have ee : (fun σ2 H2 => wipe σ2 vs = wipe σ vs ∧ te σ2 H2 R) = (fun σ2 H2 => wipe σ2 vs = wipe σ vs ∧ tYes σ2 H2 fun b H3 => cnd b (te σ2 H3 R) (R' H3)) := by
      funext σ2 H2
      show _ = (_ ∧ cnd true _ _)
      rw [cnd_t]
    rw [ee] at q
    exact q
  · have e : z.cps.toList.take z.cps.size = z.cps.toList := List.take_of_length_le (by simp)
    rw [e] at hD
    exact hD
theorem lcL {K : PySem.W.Frag} {a : Addr} {xs : List V} (f : V → Option V) {g : TG} {tt : TT} {te : TE} {vs : List Nat} {σ : L2.St} {H1 : Hp} {Q : VK} (hS : SqL K H1 a xs) (hn : xs.length ≤ sizeLine)
    (hs : ∀ x H, x ∈ xs → Same H1 H → ∀ (R : VK) (R' : Hp → Prop), (∀ y H4, Same H H4 → f x = some y → R y H4) → (∀ H4, Same H H4 → f x = none → R' H4) → g x (wipe σ vs) H fun σ2 H2 => wipe σ2 vs = wipe σ vs ∧ tt σ2 H2 fun b H3 => cnd b (te σ2 H3 R) (R' H3))
    (hd : ∀ D H, H D = some (.lst (xs.filterMap f)) → Same H1 H → Q (.ref D) H) : lcU (Itl K a) g tt te vs σ H1 Q := by
  refine lcAcc walk_list (fun i => (xs.take i).filterMap f) rfl (fun i hi => ?_) (fun H s => s.seq hS) (fun i x H H' hi s y R R' r r' => ?_) (fun D H hD s => hd D H ?_ s)
  · have := List.length_filterMap_le f (xs.take i)
    rw [List.length_take] at this
    omega
  · obtain ⟨rfl, hx⟩ := y
    have e : (xs.take (i + 1)).filterMap f = (xs.take i).filterMap f ++ [x].filterMap f := by
      rw [List.take_add_one, hx, List.filterMap_append]
      rfl
    refine hs x H' (List.mem_of_getElem? hx) s R R' (fun y H4 s4 k => r y H4 s4 ?_) (fun H4 s4 k => r' H4 s4 ?_)
    · rw [e]; simp [k]
    · rw [e]; simp [k]
  · rw [List.take_of_length_le (Nat.le_refl _)] at hD
    exact hD
/-- sum, all, any of a list that stands -/
theorem all_bl {l : List Nat} {f : Nat → Bool} : (l.map fun c => V.bl (f c)).all (fun v => v == .bl true) = l.all f := by
  induction l with
  | nil => rfl
  | cons a l ih => rw [List.map_cons, List.all_cons, List.all_cons, ih]; cases f a <;> rfl
/-! ### dicts under a lock -/
theorem walk_valuesT {d : Addr} {o : Obj} {kvs : List (List Key × V)} : Walk (Itdt d o kvs) kvs.length (fun H => H d = some (.frz o (.dT kvs))) (fun i H x H' => H' = H ∧ ∃ k, kvs[i]? = some (k, x)) :=
  ⟨fun _ _ hi q => ⟨q, hi⟩, fun _ q => ⟨q, Nat.le_refl _⟩, fun _ _ _ _ _ _ y => y⟩
theorem walk_itemsT {d : Addr} {o : Obj} {kvs : List (List Key × V)} : Walk (Itit d o kvs) kvs.length (fun H => H d = some (.frz o (.dT kvs)))
    (fun i H x H' => ∃ T k v q, kvs[i]? = some (k, v) ∧ H q = some (.tup (k.map kV)) ∧ x = .ref T ∧ H T = none ∧ H' = L2.upd H T (.tup [.ref q, v])) :=
  ⟨fun _ _ hi q => ⟨q, hi⟩, fun _ q => ⟨q, Nat.le_refl _⟩, fun _ _ _ _ _ _ y => y⟩
theorem walk_enumK {d : Addr} {o : Obj} {kvs : List (Key × V)} : Walk (Itek d o kvs) kvs.length (fun H => H d = some (.frz o (.dK kvs)))
    (fun i H x H' => ∃ T k v, kvs[i]? = some (k, v) ∧ x = .ref T ∧ H T = none ∧ H' = L2.upd H T (.tup [.int (i : Nat), kV k])) :=
  ⟨fun _ _ hi q => ⟨q, hi⟩, fun _ q => ⟨q, Nat.le_refl _⟩, fun _ _ _ _ _ _ y => y⟩
/-- unlocked again -/
theorem unlock {p : Addr} {H HL H' H2 : Hp} {u : HO} (hp : H p = some u) (b : But p H HL) (s : Same HL H') (e : L2.upd H' p u = H2) : Same H H2 := fun x o h => by
  subst e
  by_cases c : x = p
  · rw [c, upd_same, ← hp, ← c, h]
  · rw [upd_ne c]
    exact s _ _ ((b x c).trans h)
/-- the values gathered -/
theorem lcVals {d : Addr} {o : Obj} {kvs : List (Key × V)} {i : Nat} {σ : L2.St} {H1 : Hp} {Q : VK} (hi : i < σ.length) (h : H1 d = some (.frz o (.dK kvs))) (hn : kvs.length ≤ sizeLine)
    (hd : ∀ D H, H D = some (.lst (kvs.map (·.2))) → Same H1 H → Q (.ref D) H) : lcU (Itd d o kvs) (gName i) tYes (tV i) [i] σ H1 Q := by
  refine lcAcc walk_values (fun j => (kvs.take j).map (·.2)) rfl (fun j hj => ?_) (fun H s => s _ _ h) (fun j x H H' hj s y R R' r r' => ?_) (fun D H hD s => hd D H ?_ s)
  · rw [List.length_map, List.length_take]; omega
  · obtain ⟨rfl, k, hk⟩ := y
    refine ⟨?_, ?_⟩
    · show ((σ.set i none).set i _).set i none = σ.set i none
      rw [List.set_set, List.set_set]
    · show cnd true _ _
      rw [cnd_t]
      have hl : ((wipe σ [i]).set i (some x))[i]? = some (some x) := by
        show ((σ.set i none).set i (some x))[i]? = _
        simp [hi]
      show match ((wipe σ [i]).set i (some x))[i]? with | some (some v) => R v H' | _ => False
      rw [hl]
      refine r x H' (Same.refl _) ?_
      show (List.take (j + 1) kvs).map _ = _
      rw [List.take_add_one, hk, List.map_append]
      rfl
  · rw [List.take_of_length_le (Nat.le_refl _)] at hD
    exact hD
theorem lcValsT {d : Addr} {o : Obj} {kvs : List (List Key × V)} {i : Nat} {σ : L2.St} {H1 : Hp} {Q : VK} (hi : i < σ.length) (h : H1 d = some (.frz o (.dT kvs))) (hn : kvs.length ≤ sizeLine)
    (hd : ∀ D H, H D = some (.lst (kvs.map (·.2))) → Same H1 H → Q (.ref D) H) : lcU (Itdt d o kvs) (gName i) tYes (tV i) [i] σ H1 Q := by
  refine lcAcc walk_valuesT (fun j => (kvs.take j).map (·.2)) rfl (fun j hj => ?_) (fun H s => s _ _ h) (fun j x H H' hj s y R R' r r' => ?_) (fun D H hD s => hd D H ?_ s)
  · rw [List.length_map, List.length_take]; omega
  · obtain ⟨rfl, k, hk⟩ := y
    refine ⟨?_, ?_⟩
    · show ((σ.set i none).set i _).set i none = σ.set i none
      rw [List.set_set, List.set_set]
    · show cnd true _ _
      rw [cnd_t]
      have hl : ((wipe σ [i]).set i (some x))[i]? = some (some x) := by
        show ((σ.set i none).set i (some x))[i]? = _
        simp [hi]
      show match ((wipe σ [i]).set i (some x))[i]? with | some (some v) => R v H' | _ => False
      rw [hl]
      refine r x H' (Same.refl _) ?_
      show (List.take (j + 1) kvs).map _ = _
      rw [List.take_add_one, hk, List.map_append]
      rfl
  · rw [List.take_of_length_le (Nat.le_refl _)] at hD
    exact hD
/-- all stays but one -/
def Kp0 (l : Addr) (H H' : Hp) : Prop := ∀ b o, b ≠ l → H b = some o → H' b = some o
theorem Kp0.refl {l : Addr} {H : Hp} : Kp0 l H H := fun _ _ _ h => h
theorem Kp0.trans {l : Addr} {H H1 H2 : Hp} (a : Kp0 l H H1) (b : Kp0 l H1 H2) : Kp0 l H H2 := fun c o n h => b c o n (a c o n h)
theorem Kp0.but {l : Addr} {H H' : Hp} (b : But l H H') : Kp0 l H H' := fun c o n e => (b c n).trans e
theorem Kp0.same {l : Addr} {H H' : Hp} (s : Same H H') : Kp0 l H H' := fun c o n e => s c o e
/-- a list that was read ahead of a new object is read behind it -/
theorem seqK {K : PySem.W.Frag} {H H1 H' : Hp} {p l : Addr} {xs : List V} (h : SqL K H p xs) (n : H l = none) (s : Same H H1) (k : Kp0 l H1 H') : SqL K H' p xs := by
  rcases h with (h | ⟨o, h⟩) | h
  · exact .inl (.inl (k _ _ (ne_of_none h n) (s _ _ h)))
  · exact .inl (.inr ⟨o, k _ _ (ne_of_none h n) (s _ _ h)⟩)
  · exact .inr h
/-! ### == of other things -/
theorem eqSc {K : PySem.W.Frag} {x y : V} {H : Hp} {Q : VK} (h : scal x y = true) (q : Q (.bl (decide (x = y))) H) : rEqO K x y H Q := by
  unfold rEqO
  exact .inl ⟨h, q⟩
theorem neSc {K : PySem.W.Frag} {x y : V} {H : Hp} {Q : VK} (h : scal x y = true) (q : Q (.bl (!decide (x = y))) H) : rNeO K x y H Q := by
  unfold rNeO
  exact .inl ⟨h, q⟩
theorem eqDt {K : PySem.W.Frag} {x y : V} {d e : PyData} {b : Bool} {H : Hp} {Q : VK} (hd : Dp K H x d) (he : Dp K H y e) (sd : SeqAt.shaped d = true) (se : SeqAt.shaped e = true) (eb : PyData.eqv d e = b) (q : Q (.bl b) H) : rEqO K x y H Q := by
  unfold rEqO
  exact .inr (.inl ⟨d, e, hd, he, sd, se, by rw [eb]; exact q⟩)
theorem neDt {K : PySem.W.Frag} {x y : V} {d e : PyData} {b : Bool} {H : Hp} {Q : VK} (hd : Dp K H x d) (he : Dp K H y e) (sd : SeqAt.shaped d = true) (se : SeqAt.shaped e = true) (eb : PyData.eqv d e = b) (q : Q (.bl (!b)) H) : rNeO K x y H Q := by
  unfold rNeO
  exact .inr (.inl ⟨d, e, hd, he, sd, se, by rw [eb]; exact q⟩)
theorem eqId {K : PySem.W.Frag} {x y : V} {H : Hp} {Q : VK} (h : IdT K x y H) (q : Q (.bl true) H) : rEqO K x y H Q := by
  unfold rEqO
  exact .inr (.inr (.inr (.inl ⟨h, q⟩)))
theorem neId {K : PySem.W.Frag} {x y : V} {H : Hp} {Q : VK} (h : IdT K x y H) (q : Q (.bl false) H) : rNeO K x y H Q := by
  unfold rNeO
  exact .inr (.inr (.inr (.inl ⟨h, q⟩)))
theorem eqDk {K : PySem.W.Frag} {x y : V} {r : Bool} {H : Hp} {Q : VK} (h : DSame x y H r) (q : Q (.bl r) H) : rEqO K x y H Q := by
  unfold rEqO
  exact .inr (.inr (.inl ⟨r, .inl h, q⟩))
theorem neDk {K : PySem.W.Frag} {x y : V} {r : Bool} {H : Hp} {Q : VK} (h : DSame x y H r) (q : Q (.bl (!r)) H) : rNeO K x y H Q := by
  unfold rNeO
  exact .inr (.inr (.inl ⟨r, .inl h, q⟩))
theorem eqDi {K : PySem.W.Frag} {x y : V} {r : Bool} {H : Hp} {Q : VK} (h : DNums x y H r) (q : Q (.bl r) H) : rEqO K x y H Q := by
  unfold rEqO
  exact .inr (.inr (.inl ⟨r, .inr h, q⟩))
theorem neDi {K : PySem.W.Frag} {x y : V} {r : Bool} {H : Hp} {Q : VK} (h : DNums x y H r) (q : Q (.bl (!r)) H) : rNeO K x y H Q := by
  unfold rNeO
  exact .inr (.inr (.inl ⟨r, .inr h, q⟩))
/-- a list of new objects gathered: what the i-th turn leaves is acc i -/
theorem lcObj {J : It} {n : Nat} {G : Hp → Prop} {Y : Nat → Hp → V → Hp → Prop} (w : Walk J n G Y) {β : Type} (obj : β → HO) (ho : ∀ z xs, obj z ≠ .lst xs) {g : TG} {tt : TT} {te : TE} {vs : List Nat} {σ : L2.St} {H1 : Hp} {Q : VK} (acc : Nat → List β) (ha : acc 0 = []) (hl : ∀ i, i < n → (acc i).length < sizeLine) (hG : ∀ H, Same H1 H → G H)
    (hs : ∀ i x H H', i < n → Same H1 H → Y i H x H' → ∀ (R : VK) (R' : Hp → Prop), (∀ t z H4, Same H H4 → H4 t = some (obj z) → acc (i + 1) = acc i ++ [z] → R (.ref t) H4) → (∀ H4, Same H H4 → acc (i + 1) = acc i → R' H4) →
      g x (wipe σ vs) H' fun σ2 H2 => wipe σ2 vs = wipe σ vs ∧ tt σ2 H2 fun b H3 => cnd b (te σ2 H3 R) (R' H3))
    (hd : ∀ D ts H, H D = some (.lst (ts.map V.ref)) → Same H1 H → Paired (fun t z => H t = some (obj z)) ts (acc n) → Q (.ref D) H) : lcU J g tt te vs σ H1 Q := by
  refine lcIt w fun D hD => ⟨fun i H => Same H1 H ∧ ∃ ts : List Addr, H D = some (.lst (ts.map V.ref)) ∧ Paired (fun t z => H t = some (obj z)) ts (acc i), ⟨Same.new (Same.refl _) hD, [], upd_same, by rw [ha]; exact .nil⟩, fun i H _ p => hG H p.1, fun i x H H' hi p y => ?_, fun H p => ?_⟩
  · obtain ⟨s1, ts, hts, hp⟩ := p
    refine hs i x H H' hi s1 y _ _ (fun t z H4 s et e => ⟨_, s _ _ hts, ?_, Same.upd (fun b u k => s _ _ (s1 b u k)) hD, ts ++ [t], ?_, ?_⟩) (fun H4 s e => ⟨fun b u k => s _ _ (s1 b u k), ts, s _ _ hts, ?_⟩)
    · rw [List.length_map, Paired.length hp]; exact hl i hi
    · rw [upd_same, List.map_append]; rfl
    · rw [e]
      refine Paired.snoc (Paired.mapP hp fun a b hab => ?_) ?_
      · have h2 := s _ _ hab
        rw [upd_ne (fun c => by rw [c, s _ _ hts] at h2; exact ho _ _ (Option.some.inj h2).symm)]
        exact h2
      · rw [upd_ne (fun c => by rw [c, s _ _ hts] at et; exact ho _ _ (Option.some.inj et).symm)]
        exact et
    · rw [e]
      exact Paired.mapP hp fun a b hab => s _ _ hab
  · obtain ⟨s1, ts, hts, hp⟩ := p
    exact hd D ts H hts s1 hp
theorem neWq {K : PySem.W.Frag} {x y : V} {H : Hp} {Q : VK} (h : rNeW K x y H Q) : rNeO K x y H Q := by
  unfold rNeO
  exact .inr (.inr (.inr (.inr (.inl h))))
theorem eqWq {K : PySem.W.Frag} {x y : V} {H : Hp} {Q : VK} (h : rEqW K x y H Q) : rEqO K x y H Q := by
  unfold rEqO
  exact .inr (.inr (.inr (.inr (.inl h))))
theorem eqNq {K : PySem.W.Frag} {x y : V} {H : Hp} {Q : VK} (h : rEqN K x y H Q) : rEqO K x y H Q := by
  unfold rEqO
  exact .inr (.inr (.inr (.inr (.inr (.inl h)))))
theorem eqEm {K : PySem.W.Frag} {x y : V} {H : Hp} {Q : VK} (h : rEqEm K x y H Q) : rEqO K x y H Q := by
  unfold rEqO
  exact .inr (.inr (.inr (.inr (.inr (.inr (.inl h))))))
theorem eqRS {K : PySem.W.Frag} {x y : V} {H : Hp} {Q : VK} (h : rEqRS K x y H Q) : rEqO K x y H Q := by
  unfold rEqO
  exact .inr (.inr (.inr (.inr (.inr (.inr (.inr (.inl h)))))))
theorem neNq {K : PySem.W.Frag} {x y : V} {H : Hp} {Q : VK} (h : rNeN K x y H Q) : rNeO K x y H Q := by
  unfold rNeO
  exact .inr (.inr (.inr (.inr (.inr (.inl h)))))
theorem eqLE {K : PySem.W.Frag} {x y : V} {r : Bool} {H : Hp} {Q : VK} (h : EqLE K x y H r) (q : Q (.bl r) H) : rEqO K x y H Q := by
  unfold rEqO
  exact .inr (.inr (.inr (.inr (.inr (.inr (.inr (.inr (.inl ⟨r, h, q⟩))))))))
theorem neLE {K : PySem.W.Frag} {x y : V} {r : Bool} {H : Hp} {Q : VK} (h : EqLE K x y H r) (q : Q (.bl (!r)) H) : rNeO K x y H Q := by
  unfold rNeO
  exact .inr (.inr (.inr (.inr (.inr (.inr (.inl ⟨r, h, q⟩))))))
theorem eqX {K : PySem.W.Frag} {x y : V} {H : Hp} {Q : VK} (h : SelfO K x y H ∨ EqTW K x y H) (q : Q (.bl true) H) : rEqO K x y H Q := by
  unfold rEqO
  exact .inr (.inr (.inr (.inr (.inr (.inr (.inr (.inr (.inr (⟨h, q⟩)))))))))
theorem neX {K : PySem.W.Frag} {x y : V} {H : Hp} {Q : VK} (h : SelfO K x y H ∨ EqTW K x y H) (q : Q (.bl false) H) : rNeO K x y H Q := by
  unfold rNeO
  exact .inr (.inr (.inr (.inr (.inr (.inr (.inr (⟨h.elim .inl (fun z => .inr (.inl z)), q⟩)))))))
theorem neLD {K : PySem.W.Frag} {x y : V} {H : Hp} {Q : VK} (h : EqLD K x y H) (q : Q (.bl false) H) : rNeO K x y H Q := by
  unfold rNeO
  exact .inr (.inr (.inr (.inr (.inr (.inr (.inr (⟨.inr (.inr h), q⟩)))))))
/-- a list beside the empty one -/
theorem EqLE.emp {K : PySem.W.Frag} {a b : Addr} {xs : List V} {H : Hp} (h1 : SqL K H a xs) (h2 : SqL K H b []) : EqLE K (.ref a) (.ref b) H xs.isEmpty := by
  refine ⟨a, b, xs, [], rfl, rfl, h1, h2, ?_⟩
  cases xs with
  | nil => exact .inr ⟨.nil, rfl⟩
  | cons x xs => exact .inl ⟨by simp, rfl⟩
theorem neEmp {K : PySem.W.Frag} {a b : Addr} {xs : List V} {H : Hp} {Q : VK} (h1 : SqL K H a xs) (h2 : SqL K H b []) (q : Q (.bl (!xs.isEmpty)) H) : rNeO K (.ref a) (.ref b) H Q := neLE (EqLE.emp h1 h2) q
theorem eqEmp {K : PySem.W.Frag} {a b : Addr} {xs : List V} {H : Hp} {Q : VK} (h1 : SqL K H a xs) (h2 : SqL K H b []) (q : Q (.bl xs.isEmpty) H) : rEqO K (.ref a) (.ref b) H Q := eqLE (EqLE.emp h1 h2) q
end Rf
namespace Wk27
open PySem L2 PySem.Spec PyProof.Rows Rf
/-- what an exception's __init__ of one field promises -/
def P_ex1 (K : PySem.W.Frag) (C : Addr) (fld : Str) (a b : V) (H : Hp) (Q : VK) : Prop := ∃ e : Addr, a = .ref e ∧ OexC K C ∧ NoAttr K C fld ∧ H e = some (exo e C none) ∧ ∀ dx H', H dx = none → dx ≠ e → upd (upd H dx (exd dx [(fld, b)])) e (exo e C (some dx)) = H' → Q .non H'
def P_ex2 (K : PySem.W.Frag) (C : Addr) (f1 f2 : Str) (a b c : V) (H : Hp) (Q : VK) : Prop := ∃ e : Addr, a = .ref e ∧ OexC K C ∧ NoAttr K C f1 ∧ NoAttr K C f2 ∧ H e = some (exo e C none) ∧ ∀ dx H', H dx = none → dx ≠ e → upd (upd (upd H dx (exd dx [(f1, b)])) e (exo e C (some dx))) dx (exd dx [(f2, c), (f1, b)]) = H' → Q .non H'
abbrev errsL : Errs := [("NoCutting", ["found"])]
abbrev testsL : List Str := ["NoCutting", "NoParts", "NoPlace"]
abbrev EK (K : PySem.W.Frag) : Prop := ErrK K errsL testsL
def P_NoCutting_init (K : PySem.W.Frag) (a b : V) (H : Hp) (Q : VK) (E : XK) : Prop := P_ex1 K (He.ga K "NoCutting") "found" a b H Q
/-- what a raise wishes -/
def Rz (K : PySem.W.Frag) (E : XK) (H : Hp) (r : Str × List (Str × V)) : Prop := ∀ d H', H d = none → Same H H' → H' d = some (.xd r.2) → E (.ref (He.ga K r.1)) (some d) H'
/-- a whole number from lo to hi -/
def wholeV (v : V) (lo hi : Int) : Bool := match v with
  | .int i => decide (lo ≤ i) && decide (i ≤ hi)
  | _ => false
def P_is_whole (K : PySem.W.Frag) (a b c : V) (H : Hp) (Q : VK) (E : XK) : Prop := ∃ (t : String) (lo hi : Int), TyN K H a t ∧ b = .int lo ∧ c = .int hi ∧ Q (.bl (wholeV a lo hi)) H
def nameS (z : Str) : Bool := decide (1 ≤ z.length) && decide (z.length ≤ 8) && z.cps.toList.all fun c => decide (97 ≤ c) && decide (c ≤ 122)
def nameV (v : V) : Bool := match v with
  | .str z => nameS z
  | _ => false
def P_is_name (K : PySem.W.Frag) (a : V) (H : Hp) (Q : VK) (E : XK) : Prop := ∃ (t : String), TyN K H a t ∧ (∀ z, a = .str z → z.length ≤ 20000) ∧ ∀ H', Same H H' → Q (.bl (nameV a)) H'
/-! ### what a web is -/
section
variable {α κ : Type} [DecidableEq α] [DecidableEq κ]
def getA (l : List (α × Int)) (k : α) : Option Int := (l.find? fun p => decide (p.1 = k)).map (·.2)
def putA (l : List (α × Int)) (k : α) (v : Int) : List (α × Int) := if (l.any fun p => decide (p.1 = k)) = true then l.map (fun p => if p.1 = k then (p.1, v) else p) else l ++ [(k, v)]
def dropA (l : List (α × Int)) (k : α) : List (α × Int) := l.filter fun p => decide (p.1 ≠ k)
def emb (f : α → κ) (l : List (α × Int)) : List (κ × V) := l.map fun p => (f p.1, V.int p.2)
end
def kS : Str → Key := Sum.inr
def kP (p : Str × Str) : List Key := [Sum.inr p.1, Sum.inr p.2]
structure WebS where
  hv : List (Str × Int)
  kn : List ((Str × Str) × Int)
abbrev wC (K : PySem.W.Frag) : Addr := He.ga K "Web"
structure WebK (K : PySem.W.Frag) : Prop where
  cls : Cls K (wC K)
  nh : NoAttr K (wC K) "heavy"
  nk : NoAttr K (wC K) "knots"
def webF (p q : Addr) : List (Str × V) := [("heavy", .ref p), ("knots", .ref q)]
structure WebO (K : PySem.W.Frag) (H : Hp) (a p q : Addr) (W : WebS) : Prop where
  k : WebK K
  o : ∃ dx, H a = some (.ins (wC K) dx (webF p q))
  hv : H p = some (.dK (emb kS W.hv))
  kn : H q = some (.dT (emb kP W.kn))
/-- .. to be read: its dicts may be locked -/
structure WebR (K : PySem.W.Frag) (H : Hp) (a p q : Addr) (W : WebS) : Prop where
  k : WebK K
  o : ∃ dx, H a = some (.ins (wC K) dx (webF p q))
  hv : Rd H p (.dK (emb kS W.hv))
  kn : Rd H q (.dT (emb kP W.kn))
theorem WebO.r {K : PySem.W.Frag} {H : Hp} {a p q : Addr} {W : WebS} (h : WebO K H a p q W) : WebR K H a p q W := ⟨h.k, h.o, .inl h.hv, .inl h.kn⟩
/-- all stays but what stands at S -/
def Kx (S : List Addr) (H H' : Hp) : Prop := ∀ b o, b ∉ S → H b = some o → H' b = some o
/-- the tie of two places, as it was tied -/
def knotW (W : WebS) (x y : Str) : Option (Str × Str) := if (getA W.kn (x, y)).isSome then some (x, y) else if (getA W.kn (y, x)).isSome then some (y, x) else none
def totalW (W : WebS) : Int := (W.hv.map Prod.snd).sum
def forceW (W : WebS) : Int := (W.kn.map Prod.snd).sum
def P_Web_total (K : PySem.W.Frag) (a : V) (H : Hp) (Q : VK) (E : XK) : Prop := ∃ (x p q : Addr) (W : WebS), a = .ref x ∧ WebO K H x p q W ∧ W.hv.length ≤ 1000 ∧ ∀ H', Same H H' → Q (.int (totalW W)) H'
def P_Web_force (K : PySem.W.Frag) (a : V) (H : Hp) (Q : VK) (E : XK) : Prop := ∃ (x p q : Addr) (W : WebS), a = .ref x ∧ WebO K H x p q W ∧ W.kn.length ≤ 1000 ∧ ∀ H', Same H H' → Q (.int (forceW W)) H'
/-- a place of the web -/
def isPl (W : WebS) (n : Str) : Prop := (getA W.hv n).isSome = true
def P_Web_need_place (K : PySem.W.Frag) (a b : V) (H : Hp) (Q : VK) (E : XK) : Prop := ∃ (x p q : Addr) (W : WebS) (n : Str), a = .ref x ∧ WebR K H x p q W ∧ b = .str n ∧ isPl W n ∧ Q .non H
def P_Web_need_two (K : PySem.W.Frag) (a b c : V) (H : Hp) (Q : VK) (E : XK) : Prop := ∃ (x p q : Addr) (W : WebS) (n m : Str), a = .ref x ∧ WebR K H x p q W ∧ b = .str n ∧ c = .str m ∧ isPl W n ∧ isPl W m ∧ n ≠ m ∧ Q .non H
def P_Web_knot (K : PySem.W.Frag) (a b c : V) (H : Hp) (Q : VK) (E : XK) : Prop := ∃ (x p q : Addr) (W : WebS) (n m : Str), a = .ref x ∧ WebR K H x p q W ∧ b = .str n ∧ c = .str m ∧
  (∀ T u v H', knotW W n m = some (u, v) → Same H H' → H' T = some (.tup [.str u, .str v]) → Q (.ref T) H') ∧ (∀ H', knotW W n m = none → Same H H' → Q .non H')
def P_Web_need_tie (K : PySem.W.Frag) (a b c : V) (H : Hp) (Q : VK) (E : XK) : Prop := ∃ (x p q : Addr) (W : WebS) (n m u v : Str), a = .ref x ∧ WebR K H x p q W ∧ b = .str n ∧ c = .str m ∧ isPl W n ∧ isPl W m ∧ n ≠ m ∧ knotW W n m = some (u, v) ∧
  ∀ T H', Same H H' → H' T = some (.tup [.str u, .str v]) → Q (.ref T) H'
def P_Web_need_weight (K : PySem.W.Frag) (a b : V) (H : Hp) (Q : VK) (E : XK) : Prop := ∃ (w : Int), b = .int w ∧ 1 ≤ w ∧ w ≤ 1000000000 ∧ Q .non H
def P_Web_put (K : PySem.W.Frag) (a b c : V) (H : Hp) (Q : VK) (E : XK) : Prop := ∃ (x p q : Addr) (W : WebS) (n : Str) (w : Int), a = .ref x ∧ WebO K H x p q W ∧ b = .str n ∧ c = .int w ∧ nameS n = true ∧ 1 ≤ w ∧ w ≤ 1000000000 ∧ getA W.hv n = none ∧ W.hv.length < 60 ∧ totalW W + w ≤ 1000000000 ∧
  ∀ H', Kx [p] H H' → H' p = some (.dK (emb kS (putA W.hv n w))) → Q .non H'
def P_Web_weigh (K : PySem.W.Frag) (a b c : V) (H : Hp) (Q : VK) (E : XK) : Prop := ∃ (x p q : Addr) (W : WebS) (n : Str) (w w0 : Int), a = .ref x ∧ WebO K H x p q W ∧ b = .str n ∧ c = .int w ∧ 1 ≤ w ∧ w ≤ 1000000000 ∧ getA W.hv n = some w0 ∧ W.hv.length ≤ 60 ∧ totalW W - w0 + w ≤ 1000000000 ∧
  ∀ H', Kx [p] H H' → H' p = some (.dK (emb kS (putA W.hv n w))) → Q .non H'
/-- how strong two places are tied -/
def tieW (W : WebS) (n m : Str) : Int := match knotW W n m with
  | some k => (getA W.kn k).getD 0
  | none => 0
def P_Web_tie (K : PySem.W.Frag) (a b c d : V) (H : Hp) (Q : VK) (E : XK) : Prop := ∃ (x p q : Addr) (W : WebS) (n m : Str) (w : Int), a = .ref x ∧ WebO K H x p q W ∧ b = .str n ∧ c = .str m ∧ d = .int w ∧ isPl W n ∧ isPl W m ∧ n ≠ m ∧ 1 ≤ w ∧ w ≤ 1000000000 ∧ knotW W n m = none ∧ W.kn.length < 200 ∧ forceW W + w ≤ 1000000000 ∧
  ∀ H', Kx [q] H H' → H' q = some (.dT (emb kP (putA W.kn (n, m) w))) → Q .non H'
def P_Web_more (K : PySem.W.Frag) (a b c d : V) (H : Hp) (Q : VK) (E : XK) : Prop := ∃ (x p q : Addr) (W : WebS) (n m u v : Str) (w w0 : Int), a = .ref x ∧ WebO K H x p q W ∧ b = .str n ∧ c = .str m ∧ d = .int w ∧ isPl W n ∧ isPl W m ∧ n ≠ m ∧ knotW W n m = some (u, v) ∧ getA W.kn (u, v) = some w0 ∧ -1000000000 ≤ w ∧ w ≤ 1000000000 ∧ 1 ≤ w0 + w ∧ W.kn.length ≤ 200 ∧ forceW W + w ≤ 1000000000 ∧
  ∀ H', Kx [q] H H' → H' q = some (.dT (emb kP (putA W.kn (u, v) (w0 + w)))) → Q .non H'
def P_Web_untie (K : PySem.W.Frag) (a b c : V) (H : Hp) (Q : VK) (E : XK) : Prop := ∃ (x p q : Addr) (W : WebS) (n m u v : Str) (w0 : Int), a = .ref x ∧ WebO K H x p q W ∧ b = .str n ∧ c = .str m ∧ isPl W n ∧ isPl W m ∧ n ≠ m ∧ knotW W n m = some (u, v) ∧ getA W.kn (u, v) = some w0 ∧
  ∀ H', Kx [q] H H' → H' q = some (.dT (emb kP (dropA W.kn (u, v)))) → Q .non H'
def P_Web_names (K : PySem.W.Frag) (a : V) (H : Hp) (Q : VK) (E : XK) : Prop := ∃ (x p q : Addr) (W : WebS), a = .ref x ∧ WebO K H x p q W ∧ ∀ l H', H l = none → Same H H' → H' l = some (.lst (W.hv.map fun e => V.str e.1)) → Q (.ref l) H'
def P_Web_weight (K : PySem.W.Frag) (a b : V) (H : Hp) (Q : VK) (E : XK) : Prop := ∃ (x p q : Addr) (W : WebS) (n : Str) (w : Int), a = .ref x ∧ WebR K H x p q W ∧ b = .str n ∧ getA W.hv n = some w ∧ Q (.int w) H
def P_Web_strength (K : PySem.W.Frag) (a b c : V) (H : Hp) (Q : VK) (E : XK) : Prop := ∃ (x p q : Addr) (W : WebS) (n m : Str), a = .ref x ∧ WebR K H x p q W ∧ b = .str n ∧ c = .str m ∧ isPl W n ∧ isPl W m ∧ ∀ H', Same H H' → Q (.int (tieW W n m)) H'
def P_Web_init (K : PySem.W.Frag) (a : V) (H : Hp) (Q : VK) (E : XK) : Prop := ∃ (x dx : Addr), a = .ref x ∧ WebK K ∧ H x = some (.ins (wC K) dx []) ∧ ∀ p q H', H p = none → H q = none → WebO K H' x p q ⟨[], []⟩ → Kx [x] H H' → Q .non H'
def touch (n : Str) (e : (Str × Str) × Int) : Bool := decide (n = e.1.1) || decide (n = e.1.2)
def P_Web_drop (K : PySem.W.Frag) (a b : V) (H : Hp) (Q : VK) (E : XK) : Prop := ∃ (x p q : Addr) (W : WebS) (n : Str), a = .ref x ∧ WebO K H x p q W ∧ b = .str n ∧ isPl W n ∧ (W.kn.map Prod.fst).Nodup ∧ W.kn.length ≤ 200 ∧
  ∀ H', Kx [p, q] H H' → H' p = some (.dK (emb kS (dropA W.hv n))) → H' q = some (.dT (emb kP (W.kn.filter fun e => !touch n e))) → Q .non H'
/-- the places to which a place is tied, and how strong -/
def nearA (W : WebS) (n : Str) (l : List (Str × Int)) : List (Str × Int) := l.filterMap fun e => if 0 < tieW W n e.1 then some (e.1, tieW W n e.1) else none
def P_Web_near (K : PySem.W.Frag) (a b : V) (H : Hp) (Q : VK) (E : XK) : Prop := ∃ (x p q : Addr) (W : WebS) (n : Str), a = .ref x ∧ WebO K H x p q W ∧ b = .str n ∧ isPl W n ∧ (W.hv.map Prod.fst).Nodup ∧ W.hv.length ≤ 60 ∧
  ∀ f H', H f = none → Same H H' → H' f = some (.dK (emb kS (nearA W n W.hv))) → Q (.ref f) H'
/-- the place's number in the web's order -/
def rankA (l : List (Str × Int)) (n : Str) : Nat := l.findIdx fun e => decide (e.1 = n)
/-- the ties as they are told -/
def tieT (W : WebS) (e : (Str × Str) × Int) : (Str × Str) × Int := if rankA W.hv e.1.1 < rankA W.hv e.1.2 then e else ((e.1.2, e.1.1), e.2)
def isTie (H : Hp) (t : Addr) (e : (Str × Str) × Int) : Prop := H t = some (.tup [.str e.1.1, .str e.1.2, .int e.2])
def P_Web_ties (K : PySem.W.Frag) (a : V) (H : Hp) (Q : VK) (E : XK) : Prop := ∃ (x p q : Addr) (W : WebS), a = .ref x ∧ WebO K H x p q W ∧ (W.hv.map Prod.fst).Nodup ∧ W.hv.length ≤ 60 ∧ W.kn.length ≤ 200 ∧ (∀ e ∈ W.kn, isPl W e.1.1 ∧ isPl W e.1.2) ∧
  ∀ l ts H', H l = none → Same H H' → H' l = some (.lst (ts.map V.ref)) → Paired (isTie H') ts (W.kn.map (tieT W)) → Q (.ref l) H'
/-- a cutting into n parts: every name once -/
structure CutOk (nm : List Str) (kv : List (Str × Int)) (n : Int) : Prop where
  pm : (kv.map Prod.fst).Perm nm
  nd : nm.Nodup
  rg : ∀ e ∈ kv, 0 ≤ e.2 ∧ e.2 < n
/-- what is no cutting -/
inductive BadT (K : PySem.W.Frag) (H : Hp) (nm : List Str) (n : Int) : V → Prop
  | kind {v : V} {t : String} (h : TyN K H v t) (e : isO t "dict" = some false) : BadT K H nm n v
  | len {d : Addr} {kvs : List (Key × V)} (h : H d = some (.dK kvs)) (e : kvs.length ≠ nm.length) : BadT K H nm n (.ref d)
  | odd {d : Addr} {m : Nat} {nn : Bool} (h : H d = some (oddO d m nn)) (e : m ≠ nm.length ∨ (nn = true ∧ m = 1)) : BadT K H nm n (.ref d)
  | miss {d : Addr} {kvs : List (Key × V)} {z : Str} (h : H d = some (.dK kvs)) (hz : z ∈ nm) (e : valV kvs (kS z) = none) : BadT K H nm n (.ref d)
  | val {d : Addr} {kvs : List (Key × V)} {z : Str} {u : V} {t : String} (h : H d = some (.dK kvs)) (hl : kvs.length = nm.length) (hz : z ∈ nm) (e : valV kvs (kS z) = some u) (ht : TyN K H u t) (hw : wholeV u 0 (n - 1) = false)
      (ho : ∀ y ∈ nm, y ≠ z → ∃ c : Int, valV kvs (kS y) = some (.int c) ∧ 0 ≤ c ∧ c < n) : BadT K H nm n (.ref d)
/-- the web, the number of parts, the thing -/
structure AskB (K : PySem.W.Frag) (H : Hp) (x wp wq : Addr) (W : WebS) : Prop where
  web : WebO K H x wp wq W
  hl : W.hv.length ≤ 60
  nd : (W.hv.map Prod.fst).Nodup
def GoodT (H : Hp) (nm : List Str) (n : Int) (c : V) (kv : List (Str × Int)) : Prop := ∃ cd, c = .ref cd ∧ H cd = some (.dK (emb kS kv)) ∧ CutOk nm kv n
def P_fault_of (K : PySem.W.Frag) (a b c : V) (H : Hp) (Q : VK) (E : XK) : Prop := ∃ (x wp wq : Addr) (W : WebS) (n : Int), a = .ref x ∧ AskB K H x wp wq W ∧ b = .int n ∧ ((∃ kv, GoodT H (W.hv.map Prod.fst) n c kv ∧ ∀ H', Same H H' → Q .non H') ∨ (BadT K H (W.hv.map Prod.fst) n c ∧ ∀ T H', Same H H' → Q (.ref T) H'))
/-- a cutting, or the refusal -/
def CutQ (K : PySem.W.Frag) (H : Hp) (nm : List Str) (n : Int) (c : V) (E : XK) (G : List (Str × Int) → Prop) : Prop := (∃ kv, GoodT H nm n c kv ∧ G kv) ∨ (EK K ∧ BadT K H nm n c ∧ ∀ H', Same H H' → Rz K E H' ("NoCutting", [("found", c)]))
def P_need_cutting (K : PySem.W.Frag) (a b c : V) (H : Hp) (Q : VK) (E : XK) : Prop := ∃ (x wp wq : Addr) (W : WebS) (n : Int), a = .ref x ∧ AskB K H x wp wq W ∧ b = .int n ∧ CutQ K H (W.hv.map Prod.fst) n c E fun _ => ∀ H', Same H H' → Q .non H'
/-! use: C_exc C_err27 C_exr C_name C_webf C_data C_bad27 -/
def P_l_cell (K : PySem.W.Frag) (a b : V) (H : Hp) (Q : VK) (E : XK) : Prop := ∃ (s : Addr) (ns : List Int) (k : Int), a = .ref s ∧ SqL K H s (ns.map V.int) ∧ ns.length ≤ 63 ∧ b = .int k ∧ 0 ≤ k ∧ ∀ (c : Int), Q (.int c) H
/-- a purse of drawn numbers -/
abbrev prD (x y z : Int) : List (Key × V) := [(Sum.inr "left", .int x), (Sum.inr "seed", .int y), (Sum.inr "at", .int z)]
def PrO (H : Hp) (p : Addr) : Prop := ∃ x y z : Int, 0 ≤ x ∧ H p = some (.dK (prD x y z))
def P_l_purse (K : PySem.W.Frag) (a : V) (H : Hp) (Q : VK) (E : XK) : Prop := ∃ (c : Int), a = .int c ∧ ∀ p H', H p = none → Same H H' → PrO H' p → Q (.ref p) H'
def P_l_take (K : PySem.W.Frag) (a b : V) (H : Hp) (Q : VK) (E : XK) : Prop := ∃ (p : Addr) (m : Int), a = .ref p ∧ PrO H p ∧ b = .int m ∧ 1 ≤ m ∧ m < 2 ^ 40 ∧ ∀ d H', 0 ≤ d → d < m → But p H H' → PrO H' p → Q (.int d) H'
def P_l_names (K : PySem.W.Frag) (a b : V) (H : Hp) (Q : VK) (E : XK) : Prop := ∃ (p : Addr) (n : Nat), a = .ref p ∧ PrO H p ∧ b = .int n ∧ n ≤ 60 ∧ ∀ l (xs : List Str) H', H l = none → Kx [p] H H' → PrO H' p → H' l = some (.lst (xs.map V.str)) → xs.length = n → xs.Nodup → (∀ x ∈ xs, nameS x = true) → Q (.ref l) H'
def P_l_size (K : PySem.W.Frag) (a b c : V) (H : Hp) (Q : VK) (E : XK) : Prop := ∃ (p : Addr) (k m : Int), a = .ref p ∧ PrO H p ∧ b = .int k ∧ 0 ≤ k ∧ k < 4 ∧ c = .int m ∧ 1000 ≤ m ∧ m < 2 ^ 40 ∧ ∀ w H', 1 ≤ w → w ≤ m → Kx [p] H H' → PrO H' p → Q (.int w) H'
def isPr (H : Hp) (t : Addr) (e : Nat × Nat) : Prop := H t = some (.tup [.int e.1, .int e.2])
def P_l_pairs (K : PySem.W.Frag) (a b c : V) (H : Hp) (Q : VK) (E : XK) : Prop := ∃ (p : Addr) (m n : Nat), a = .ref p ∧ PrO H p ∧ b = .int m ∧ 2 ≤ m ∧ m ≤ 60 ∧ c = .int n ∧ n ≤ 179 ∧
  ∀ l ts ps H', H l = none → Kx [p] H H' → PrO H' p → H' l = some (.lst (ts.map V.ref)) → Paired (isPr H') ts ps → ps.Nodup → (∀ e ∈ ps, e.1 < e.2 ∧ e.2 < m) → ps.length ≤ n → Q (.ref l) H'
/-- told this way or that -/
def Flip (e f : (Str × Str) × Int) : Prop := f = e ∨ f = ((e.1.2, e.1.1), e.2)
def isTI (H : Hp) (t : Addr) (e : (Nat × Nat) × Int) : Prop := H t = some (.tup [.int e.1.1, .int e.1.2, .int e.2])
structure MdS where
  nm : List Str
  ws : List Int
  ti : List ((Nat × Nat) × Int)
/-- a tie told by names -/
def nmT (nm : List Str) (e : (Nat × Nat) × Int) : (Str × Str) × Int := ((nm.getD e.1.1 "", nm.getD e.1.2 ""), e.2)
structure MdOk (M : MdS) (W : WebS) : Prop where
  nd : M.nm.Nodup
  good : ∀ z ∈ M.nm, nameS z = true
  len : M.nm.length ≤ 60
  wl : M.ws.length = M.nm.length
  wr : ∀ w ∈ M.ws, 1 ≤ w ∧ w ≤ 16000000
  tk : (M.ti.map Prod.fst).Nodup
  tr : ∀ e ∈ M.ti, e.1.1 < e.1.2 ∧ e.1.2 < M.nm.length ∧ 1 ≤ e.2 ∧ e.2 ≤ 5000003
  tl : M.ti.length ≤ 179
  hv : W.hv = M.nm.zip M.ws
  kn : Paired Flip (M.ti.map (nmT M.nm)) W.kn
structure MdO (K : PySem.W.Frag) (H : Hp) (x wp wq ln lw lt : Addr) (M : MdS) (W : WebS) : Prop where
  web : WebO K H x wp wq W
  nm : H ln = some (.lst (M.nm.map V.str))
  ws : H lw = some (.lst (M.ws.map V.int))
  ti : ∃ ts : List Addr, H lt = some (.lst (ts.map V.ref)) ∧ Paired (isTI H) ts M.ti
  ok : MdOk M W
def P_l_web (K : PySem.W.Frag) (a b : V) (H : Hp) (Q : VK) (E : XK) : Prop := ∃ (p : Addr) (n : Nat), WebK K ∧ a = .ref p ∧ PrO H p ∧ b = .int n ∧ n ≤ 60 ∧
  ∀ T x wp wq ln lw lt M W H', H x = none → H wp = none → H wq = none → H ln = none → H lw = none → H lt = none → Kx [p] H H' → PrO H' p → H' T = some (.tup [.ref x, .ref ln, .ref lw, .ref lt]) → MdO K H' x wp wq ln lw lt M W → M.nm.length = n → (∀ e ∈ M.ti, e.2 ≤ 5000000) → Q (.ref T) H'
def P_l_cutting (K : PySem.W.Frag) (a b c : V) (H : Hp) (Q : VK) (E : XK) : Prop := ∃ (p ln : Addr) (nm : List Str) (n : Nat), a = .ref p ∧ PrO H p ∧ b = .ref ln ∧ H ln = some (.lst (nm.map V.str)) ∧ nm.Nodup ∧ nm.length ≤ 60 ∧ c = .int n ∧ 1 ≤ n ∧ n ≤ 100 ∧
  ∀ T d lt kv (told : List Int) H', H d = none → H lt = none → Kx [p] H H' → PrO H' p → H' T = some (.tup [.ref d, .ref lt]) → H' d = some (.dK (emb kS kv)) → H' lt = some (.lst (told.map V.int)) → told.length = nm.length → (∀ c ∈ told, 0 ≤ c ∧ c < n) → kv.Perm (nm.zip told) → Q (.ref T) H'
def cutB (kv : List (Str × Int)) (e : (Str × Str) × Int) : Bool := !decide (getA kv e.1.1 = getA kv e.1.2)
/-- a web and a cutting of it, to be asked -/
structure AskO (K : PySem.W.Frag) (H : Hp) (x wp wq cd : Addr) (W : WebS) (n : Nat) (kv : List (Str × Int)) : Prop where
  web : WebO K H x wp wq W
  nd : (W.hv.map Prod.fst).Nodup
  hl : W.hv.length ≤ 60
  kl : W.kn.length ≤ 200
  ends : ∀ e ∈ W.kn, isPl W e.1.1 ∧ isPl W e.1.2
  cd : H cd = some (.dK (emb kS kv))
  ck : CutOk (W.hv.map Prod.fst) kv n
/-- what is no cutting, at a door -/
def BadQ (K : PySem.W.Frag) (H : Hp) (a b c : V) (E : XK) : Prop := ∃ (x wp wq : Addr) (W : WebS) (n : Int), a = .ref x ∧ AskB K H x wp wq W ∧ b = .int n ∧ EK K ∧ BadT K H (W.hv.map Prod.fst) n c ∧ ∀ H', Same H H' → Rz K E H' ("NoCutting", [("found", c)])
def P_cut_tiesG (K : PySem.W.Frag) (a b c : V) (H : Hp) (Q : VK) (E : XK) : Prop := ∃ (x wp wq cd : Addr) (W : WebS) (n : Nat) (kv : List (Str × Int)), AskO K H x wp wq cd W n kv ∧ a = .ref x ∧ b = .int n ∧ c = .ref cd ∧
  ∀ l ts H', H l = none → Same H H' → H' l = some (.lst (ts.map V.ref)) → Paired (isTie H') ts ((W.kn.map (tieT W)).filter (cutB kv)) → Q (.ref l) H'
def P_cut_ties (K : PySem.W.Frag) (a b c : V) (H : Hp) (Q : VK) (E : XK) : Prop := BadQ K H a b c E ∨ P_cut_tiesG K a b c H Q E
def P_cut_strength (K : PySem.W.Frag) (a b c : V) (H : Hp) (Q : VK) (E : XK) : Prop := BadQ K H a b c E
def cF (kv : List (Str × Int)) (z : Str) : Int := (getA kv z).getD 0
/-- what part j weighs -/
def wSum (hv : List (Str × Int)) (f : Str → Int) (j : Nat) : Int := (hv.map fun e => if f e.1 = (j : Int) then e.2 else 0).sum
def wRow (hv : List (Str × Int)) (f : Str → Int) (n : Nat) : List Int := (List.range n).map (wSum hv f)
def P_part_weightsG (K : PySem.W.Frag) (a b c : V) (H : Hp) (Q : VK) (E : XK) : Prop := ∃ (x wp wq cd : Addr) (W : WebS) (n : Nat) (kv : List (Str × Int)), AskO K H x wp wq cd W n kv ∧ n ≤ 6 ∧ a = .ref x ∧ b = .int n ∧ c = .ref cd ∧
  ∀ l H', H l = none → Same H H' → H' l = some (.lst ((wRow W.hv (cF kv) n).map V.int)) → Q (.ref l) H'
def P_part_weights (K : PySem.W.Frag) (a b c : V) (H : Hp) (Q : VK) (E : XK) : Prop := BadQ K H a b c E ∨ P_part_weightsG K a b c H Q E
/-- the names of part j -/
def nRow (nm : List Str) (f : Str → Int) (j : Nat) : List Str := nm.filter fun z => decide (f z = (j : Int))
structure NamO (H : Hp) (l : Addr) (rs : List Addr) (nm : List Str) (f : Str → Int) (n : Nat) : Prop where
  l : H l = some (.lst (rs.map V.ref))
  ln : rs.length = n
  row : ∀ (j : Nat) (r : Addr), rs[j]? = some r → H r = some (.lst ((nRow nm f j).map V.str))
def P_part_namesG (K : PySem.W.Frag) (a b c : V) (H : Hp) (Q : VK) (E : XK) : Prop := ∃ (x wp wq cd : Addr) (W : WebS) (n : Nat) (kv : List (Str × Int)), AskO K H x wp wq cd W n kv ∧ n ≤ 6 ∧ a = .ref x ∧ b = .int n ∧ c = .ref cd ∧
  ∀ l rs H', H l = none → (∀ r ∈ rs, H r = none) → rs.Nodup → l ∉ rs → Same H H' → NamO H' l rs (W.hv.map Prod.fst) (cF kv) n → Q (.ref l) H'
def P_part_names (K : PySem.W.Frag) (a b c : V) (H : Hp) (Q : VK) (E : XK) : Prop := BadQ K H a b c E ∨ P_part_namesG K a b c H Q E
/-- the two parts of a told tie, the lesser first -/
def kpT (kv : List (Str × Int)) (e : (Str × Str) × Int) : Int × Int := (if cF kv e.1.1 ≤ cF kv e.1.2 then (cF kv e.1.1, cF kv e.1.2) else (cF kv e.1.2, cF kv e.1.1))
def sumK (ti : List ((Str × Str) × Int)) (kv : List (Str × Int)) (k : Int × Int) : Int := ((ti.filter fun e => decide (kpT kv e = k)).map Prod.snd).sum
/-- what lies between the parts: the two numbers rising, their ties' strengths -/
structure BtwOk (ti : List ((Str × Str) × Int)) (kv : List (Str × Int)) (L : List ((Int × Int) × Int)) : Prop where
  up : (L.map Prod.fst).Pairwise fun x y => x.1 < y.1 ∨ (x.1 = y.1 ∧ x.2 < y.2)
  mem : ∀ k, k ∈ L.map Prod.fst ↔ k.1 < k.2 ∧ k ∈ ti.map (kpT kv)
  val : ∀ e ∈ L, e.2 = sumK ti kv e.1
def P_between_partsG (K : PySem.W.Frag) (a b c : V) (H : Hp) (Q : VK) (E : XK) : Prop := ∃ (x wp wq cd : Addr) (W : WebS) (n : Nat) (kv : List (Str × Int)), AskO K H x wp wq cd W n kv ∧ a = .ref x ∧ b = .int n ∧ c = .ref cd ∧
  ∀ d L H', H d = none → Same H H' → H' d = some (.dT (emb pairK L)) → BtwOk (W.kn.map (tieT W)) kv L → Q (.ref d) H'
def P_between_parts (K : PySem.W.Frag) (a b c : V) (H : Hp) (Q : VK) (E : XK) : Prop := BadQ K H a b c E ∨ P_between_partsG K a b c H Q E
abbrev ruC (K : PySem.W.Frag) : Addr := He.ga K "Rule"
structure RuleK (K : PySem.W.Frag) : Prop where
  cls : Cls K (ruC K)
  n1 : NoAttr K (ruC K) "parts"
  n2 : NoAttr K (ruC K) "low"
  n3 : NoAttr K (ruC K) "high"
def ruF (n lo hi : Int) : List (Str × V) := [("parts", .int n), ("low", .int lo), ("high", .int hi)]
structure RuO (K : PySem.W.Frag) (H : Hp) (r : Addr) (n lo hi : Int) : Prop where
  k : RuleK K
  o : ∃ dx, H r = some (.ins (ruC K) dx (ruF n lo hi))
def P_Rule_init (K : PySem.W.Frag) (a b c d : V) (H : Hp) (Q : VK) (E : XK) : Prop := ∃ (r dx : Addr) (n lo hi : Int), a = .ref r ∧ RuleK K ∧ H r = some (.ins (ruC K) dx []) ∧ b = .int n ∧ c = .int lo ∧ d = .int hi ∧ 2 ≤ n ∧ n ≤ 6 ∧ 0 ≤ lo ∧ lo ≤ hi ∧ 1 ≤ hi ∧ hi ≤ 1000000000 ∧ ∀ H', RuO K H' r n lo hi → Kx [r] H H' → Q .non H'
def P_Rule_does (K : PySem.W.Frag) (a b : V) (H : Hp) (Q : VK) (E : XK) : Prop := ∃ (r : Addr) (n lo hi w : Int), a = .ref r ∧ RuO K H r n lo hi ∧ b = .int w ∧ Q (.bl (decide (lo ≤ w ∧ w ≤ hi))) H
/-- the first weight that is not within the bounds -/
def beyI (lo hi : Int) (ws : List Int) : V := match ws.findIdx? fun w => !decide (lo ≤ w ∧ w ≤ hi) with
  | some i => .int i
  | none => .non
def P_first_beyondG (K : PySem.W.Frag) (a b c : V) (H : Hp) (Q : VK) (E : XK) : Prop := ∃ (x wp wq cd r : Addr) (W : WebS) (n : Nat) (lo hi : Int) (kv : List (Str × Int)), AskO K H x wp wq cd W n kv ∧ n ≤ 6 ∧ RuO K H r n lo hi ∧ a = .ref x ∧ b = .ref r ∧ c = .ref cd ∧ ∀ H', Same H H' → Q (beyI lo hi (wRow W.hv (cF kv) n)) H'
def P_first_beyond (K : PySem.W.Frag) (a b c : V) (H : Hp) (Q : VK) (E : XK) : Prop := (∃ (r : Addr) (n lo hi : Int), b = .ref r ∧ RuO K H r n lo hi ∧ BadQ K H a (.int n) c E) ∨ P_first_beyondG K a b c H Q E
/-- numbered as they come: the numbers given so far -/
def numStep (f : Str → Int) (nw : List (Int × Int)) (z : Str) : List (Int × Int) := if (getA nw (f z)).isSome then nw else nw ++ [(f z, (nw.length : Int))]
def numNew (f : Str → Int) (nm : List Str) : List (Int × Int) := nm.foldl (numStep f) []
/-- the cutting numbered anew -/
def numW (nm : List Str) (f : Str → Int) : List (Str × Int) := nm.map fun z => (z, (getA (numNew f nm) (f z)).getD 0)
def P_numberedG (K : PySem.W.Frag) (a b c : V) (H : Hp) (Q : VK) (E : XK) : Prop := ∃ (x wp wq cd : Addr) (W : WebS) (n : Nat) (kv : List (Str × Int)), AskO K H x wp wq cd W n kv ∧ a = .ref x ∧ b = .int n ∧ c = .ref cd ∧
  ∀ d H', H d = none → Same H H' → H' d = some (.dK (emb kS (numW (W.hv.map Prod.fst) (cF kv)))) → Q (.ref d) H'
def kI : Int → Key := Sum.inl
def P_numbered (K : PySem.W.Frag) (a b c : V) (H : Hp) (Q : VK) (E : XK) : Prop := BadQ K H a b c E ∨ P_numberedG K a b c H Q E
/-- two cuttings, the first bad, or the second -/
def BadQ2 (K : PySem.W.Frag) (H : Hp) (a b c d : V) (E : XK) : Prop := BadQ K H a b c E ∨ ((∃ (x wp wq cd : Addr) (W : WebS) (n : Nat) (kv : List (Str × Int)), AskO K H x wp wq cd W n kv ∧ a = .ref x ∧ b = .int n ∧ c = .ref cd) ∧ BadQ K H a b d E)
def P_apart_at (K : PySem.W.Frag) (a b c d : V) (H : Hp) (Q : VK) (E : XK) : Prop := BadQ2 K H a b c d E
def P_nearest (K : PySem.W.Frag) (a b c d : V) (H : Hp) (Q : VK) (E : XK) : Prop := BadQ2 K H a b c d E
def P_orders_of (K : PySem.W.Frag) (a : V) (H : Hp) (Q : VK) (E : XK) : Prop := False
def P_agreeing (K : PySem.W.Frag) (a b : V) (H : Hp) (Q : VK) (E : XK) : Prop := False
/-- a thing that can be shown -/
def ThR (K : PySem.W.Frag) (H : Hp) (v : V) : Prop := ∃ d : PyData, Sd K H v d ∧ d.showable = true ∧ d.depth ≤ 60 ∧ d.shown.length ≤ 5000000
/-- a web, a rule, a cutting, a thing that is none -/
structure DoorO (K : PySem.W.Frag) (H : Hp) (x wp wq cd r : Addr) (W : WebS) (n : Nat) (lo hi : Int) (kv : List (Str × Int)) (v : V) : Prop where
  ek : EK K
  ask : AskO K H x wp wq cd W n kv
  ru : RuO K H r n lo hi
  bad : BadT K H (W.hv.map Prod.fst) n v
def P_l_called (K : PySem.W.Frag) (a b c d e f : V) (H : Hp) (Q : VK) (E : XK) : Prop := ∃ (x wp wq cd r : Addr) (W : WebS) (n : Nat) (lo hi : Int) (kv : List (Str × Int)) (k : Int), a = .ref x ∧ b = .int n ∧ c = .ref r ∧ d = .ref cd ∧ f = .int k ∧ 0 ≤ k ∧ k ≤ 10 ∧ DoorO K H x wp wq cd r W n lo hi kv e ∧ ∀ H', Same H H' → Rz K E H' ("NoCutting", [("found", e)])
def P_l_refused (K : PySem.W.Frag) (a b c d e f : V) (H : Hp) (Q : VK) (E : XK) : Prop := ∃ (x wp wq cd r : Addr) (W : WebS) (n : Nat) (lo hi : Int) (kv : List (Str × Int)) (k : Int), a = .ref x ∧ b = .int n ∧ c = .ref r ∧ d = .ref cd ∧ f = .int k ∧ 0 ≤ k ∧ k ≤ 10 ∧ DoorO K H x wp wq cd r W n lo hi kv e ∧ ThR K H e ∧ ∀ H', Same H H' → Q (.bl true) H'
/-- what stands in a spoilt cutting: its values -/
def SpV (H : Hp) (v : V) : Prop := match v with
  | .int i => -(10 : Int) ^ 30 < i ∧ i < 10 ^ 30
  | .bl b => b = true
  | .non => True
  | .str z => z = "0"
  | .ref l => H l = some (.lst [.int 1])
  | _ => False
/-- why it is none -/
def BadD (nm : List Str) (n : Int) (kvs : List (Key × V)) : Prop := kvs.length ≠ nm.length ∨ (∃ z ∈ nm, valV kvs (kS z) = none) ∨
  (kvs.length = nm.length ∧ ∃ z ∈ nm, ∃ u, valV kvs (kS z) = some u ∧ wholeV u 0 (n - 1) = false ∧ ∀ y ∈ nm, y ≠ z → ∃ c : Int, valV kvs (kS y) = some (.int c) ∧ 0 ≤ c ∧ c < n)
def keyOk (k : Key) : Prop := match k with
  | .inr z => z.length ≤ 20 ∧ (∀ c ∈ z.cps.toList, c < 16 ^ 8)
  | .inl _ => False
/-- a spoilt cutting -/
def SpoO (H : Hp) (nm : List Str) (n : Int) (b : Addr) : Prop := ∃ kvs, H b = some (.dK kvs) ∧ kvs.length ≤ 61 ∧ (∀ e ∈ kvs, keyOk e.1 ∧ SpV H e.2) ∧ BadD nm n kvs
def P_l_spoilt (K : PySem.W.Frag) (a b c d : V) (H : Hp) (Q : VK) (E : XK) : Prop := ∃ (p ln cd : Addr) (nm : List Str) (n : Nat) (kv : List (Str × Int)), a = .ref p ∧ PrO H p ∧ b = .ref ln ∧ H ln = some (.lst (nm.map V.str)) ∧ 1 ≤ nm.length ∧ nm.length ≤ 60 ∧ (∀ z ∈ nm, nameS z = true) ∧ c = .ref cd ∧ cd ≠ p ∧ H cd = some (.dK (emb kS kv)) ∧ CutOk nm kv n ∧ d = .int n ∧ 2 ≤ n ∧ n ≤ 6 ∧
  ∀ b H', H b = none → Kx [p] H H' → PrO H' p → SpoO H' nm n b → Q (.ref b) H'
/-- all that is told of a cutting -/
def AllO (H : Hp) (l : Addr) (W : WebS) (n : Nat) (lo hi : Int) (kv : List (Str × Int)) (a5 : Addr) : Prop := ∃ (a1 a2 a3 a6 : Addr) (t1 t6 rs : List Addr) (L : List ((Int × Int) × Int)),
  H l = some (.lst [.ref a1, .ref a2, .ref a3, beyI lo hi (wRow W.hv (cF kv) n), .ref a5, .ref a6]) ∧
  H a1 = some (.lst (t1.map V.ref)) ∧ Paired (isTie H) t1 ((W.kn.map (tieT W)).filter (cutB kv)) ∧ NamO H a2 rs (W.hv.map Prod.fst) (cF kv) n ∧ H a3 = some (.dT (emb pairK L)) ∧ BtwOk (W.kn.map (tieT W)) kv L ∧
  H a5 = some (.dK (emb kS (numW (W.hv.map Prod.fst) (cF kv)))) ∧ H a6 = some (.lst (t6.map V.ref)) ∧ Paired (isTie H) t6 (W.kn.map (tieT W))
def P_l_all (K : PySem.W.Frag) (a b c d : V) (H : Hp) (Q : VK) (E : XK) : Prop := ∃ (x wp wq cd r : Addr) (W : WebS) (n : Nat) (lo hi : Int) (kv : List (Str × Int)), AskO K H x wp wq cd W n kv ∧ n ≤ 6 ∧ RuO K H r n lo hi ∧ a = .ref x ∧ b = .int n ∧ c = .ref r ∧ d = .ref cd ∧
  ∀ l a5 H', H a5 = none → Same H H' → AllO H' l W n lo hi kv a5 → Q (.ref l) H'
def P_law (K : PySem.W.Frag) (a : V) (H : Hp) (Q : VK) (E : XK) : Prop := ErrK K errsL testsL ∧ WebK K ∧ RuleK K ∧ ∃ (s : Addr) (ns : List Int), a = .ref s ∧ SqL K H s (ns.map V.int) ∧ ns.length ≤ 63 ∧ ∀ H', Q (.bl true) H'

def sp_NoCutting_init (K : PySem.W.Frag) : Sp := fun vs H Q E => match vs with
  | [a0, a1] => P_NoCutting_init K a0 a1 H Q E
  | _ => False
def sp_is_whole (K : PySem.W.Frag) : Sp := fun vs H Q E => match vs with
  | [a0, a1, a2] => P_is_whole K a0 a1 a2 H Q E
  | _ => False
def sp_is_name (K : PySem.W.Frag) : Sp := fun vs H Q E => match vs with
  | [a0] => P_is_name K a0 H Q E
  | _ => False
def sp_fault_of (K : PySem.W.Frag) : Sp := fun vs H Q E => match vs with
  | [a0, a1, a2] => P_fault_of K a0 a1 a2 H Q E
  | _ => False
def sp_need_cutting (K : PySem.W.Frag) : Sp := fun vs H Q E => match vs with
  | [a0, a1, a2] => P_need_cutting K a0 a1 a2 H Q E
  | _ => False
def sp_cut_ties (K : PySem.W.Frag) : Sp := fun vs H Q E => match vs with
  | [a0, a1, a2] => P_cut_ties K a0 a1 a2 H Q E
  | _ => False
def sp_cut_strength (K : PySem.W.Frag) : Sp := fun vs H Q E => match vs with
  | [a0, a1, a2] => P_cut_strength K a0 a1 a2 H Q E
  | _ => False
def sp_part_weights (K : PySem.W.Frag) : Sp := fun vs H Q E => match vs with
  | [a0, a1, a2] => P_part_weights K a0 a1 a2 H Q E
  | _ => False
def sp_part_names (K : PySem.W.Frag) : Sp := fun vs H Q E => match vs with
  | [a0, a1, a2] => P_part_names K a0 a1 a2 H Q E
  | _ => False
def sp_between_parts (K : PySem.W.Frag) : Sp := fun vs H Q E => match vs with
  | [a0, a1, a2] => P_between_parts K a0 a1 a2 H Q E
  | _ => False
def sp_first_beyond (K : PySem.W.Frag) : Sp := fun vs H Q E => match vs with
  | [a0, a1, a2] => P_first_beyond K a0 a1 a2 H Q E
  | _ => False
def sp_numbered (K : PySem.W.Frag) : Sp := fun vs H Q E => match vs with
  | [a0, a1, a2] => P_numbered K a0 a1 a2 H Q E
  | _ => False
def sp_apart_at (K : PySem.W.Frag) : Sp := fun vs H Q E => match vs with
  | [a0, a1, a2, a3] => P_apart_at K a0 a1 a2 a3 H Q E
  | _ => False
def sp_orders_of (K : PySem.W.Frag) : Sp := fun vs H Q E => match vs with
  | [a0] => P_orders_of K a0 H Q E
  | _ => False
def sp_agreeing (K : PySem.W.Frag) : Sp := fun vs H Q E => match vs with
  | [a0, a1] => P_agreeing K a0 a1 H Q E
  | _ => False
def sp_nearest (K : PySem.W.Frag) : Sp := fun vs H Q E => match vs with
  | [a0, a1, a2, a3] => P_nearest K a0 a1 a2 a3 H Q E
  | _ => False
def sp_Rule_init (K : PySem.W.Frag) : Sp := fun vs H Q E => match vs with
  | [a0, a1, a2, a3] => P_Rule_init K a0 a1 a2 a3 H Q E
  | _ => False
def sp_Rule_does (K : PySem.W.Frag) : Sp := fun vs H Q E => match vs with
  | [a0, a1] => P_Rule_does K a0 a1 H Q E
  | _ => False
def sp_Web_init (K : PySem.W.Frag) : Sp := fun vs H Q E => match vs with
  | [a0] => P_Web_init K a0 H Q E
  | _ => False
def sp_Web_need_place (K : PySem.W.Frag) : Sp := fun vs H Q E => match vs with
  | [a0, a1] => P_Web_need_place K a0 a1 H Q E
  | _ => False
def sp_Web_need_two (K : PySem.W.Frag) : Sp := fun vs H Q E => match vs with
  | [a0, a1, a2] => P_Web_need_two K a0 a1 a2 H Q E
  | _ => False
def sp_Web_knot (K : PySem.W.Frag) : Sp := fun vs H Q E => match vs with
  | [a0, a1, a2] => P_Web_knot K a0 a1 a2 H Q E
  | _ => False
def sp_Web_need_tie (K : PySem.W.Frag) : Sp := fun vs H Q E => match vs with
  | [a0, a1, a2] => P_Web_need_tie K a0 a1 a2 H Q E
  | _ => False
def sp_Web_need_weight (K : PySem.W.Frag) : Sp := fun vs H Q E => match vs with
  | [a0, a1] => P_Web_need_weight K a0 a1 H Q E
  | _ => False
def sp_Web_put (K : PySem.W.Frag) : Sp := fun vs H Q E => match vs with
  | [a0, a1, a2] => P_Web_put K a0 a1 a2 H Q E
  | _ => False
def sp_Web_weigh (K : PySem.W.Frag) : Sp := fun vs H Q E => match vs with
  | [a0, a1, a2] => P_Web_weigh K a0 a1 a2 H Q E
  | _ => False
def sp_Web_drop (K : PySem.W.Frag) : Sp := fun vs H Q E => match vs with
  | [a0, a1] => P_Web_drop K a0 a1 H Q E
  | _ => False
def sp_Web_tie (K : PySem.W.Frag) : Sp := fun vs H Q E => match vs with
  | [a0, a1, a2, a3] => P_Web_tie K a0 a1 a2 a3 H Q E
  | _ => False
def sp_Web_more (K : PySem.W.Frag) : Sp := fun vs H Q E => match vs with
  | [a0, a1, a2, a3] => P_Web_more K a0 a1 a2 a3 H Q E
  | _ => False
def sp_Web_untie (K : PySem.W.Frag) : Sp := fun vs H Q E => match vs with
  | [a0, a1, a2] => P_Web_untie K a0 a1 a2 H Q E
  | _ => False
def sp_Web_names (K : PySem.W.Frag) : Sp := fun vs H Q E => match vs with
  | [a0] => P_Web_names K a0 H Q E
  | _ => False
def sp_Web_weight (K : PySem.W.Frag) : Sp := fun vs H Q E => match vs with
  | [a0, a1] => P_Web_weight K a0 a1 H Q E
  | _ => False
def sp_Web_ties (K : PySem.W.Frag) : Sp := fun vs H Q E => match vs with
  | [a0] => P_Web_ties K a0 H Q E
  | _ => False
def sp_Web_strength (K : PySem.W.Frag) : Sp := fun vs H Q E => match vs with
  | [a0, a1, a2] => P_Web_strength K a0 a1 a2 H Q E
  | _ => False
def sp_Web_near (K : PySem.W.Frag) : Sp := fun vs H Q E => match vs with
  | [a0, a1] => P_Web_near K a0 a1 H Q E
  | _ => False
def sp_Web_total (K : PySem.W.Frag) : Sp := fun vs H Q E => match vs with
  | [a0] => P_Web_total K a0 H Q E
  | _ => False
def sp_Web_force (K : PySem.W.Frag) : Sp := fun vs H Q E => match vs with
  | [a0] => P_Web_force K a0 H Q E
  | _ => False
def sp_l_cell (K : PySem.W.Frag) : Sp := fun vs H Q E => match vs with
  | [a0, a1] => P_l_cell K a0 a1 H Q E
  | _ => False
def sp_l_purse (K : PySem.W.Frag) : Sp := fun vs H Q E => match vs with
  | [a0] => P_l_purse K a0 H Q E
  | _ => False
def sp_l_take (K : PySem.W.Frag) : Sp := fun vs H Q E => match vs with
  | [a0, a1] => P_l_take K a0 a1 H Q E
  | _ => False
def sp_l_names (K : PySem.W.Frag) : Sp := fun vs H Q E => match vs with
  | [a0, a1] => P_l_names K a0 a1 H Q E
  | _ => False
def sp_l_size (K : PySem.W.Frag) : Sp := fun vs H Q E => match vs with
  | [a0, a1, a2] => P_l_size K a0 a1 a2 H Q E
  | _ => False
def sp_l_pairs (K : PySem.W.Frag) : Sp := fun vs H Q E => match vs with
  | [a0, a1, a2] => P_l_pairs K a0 a1 a2 H Q E
  | _ => False
def sp_l_web (K : PySem.W.Frag) : Sp := fun vs H Q E => match vs with
  | [a0, a1] => P_l_web K a0 a1 H Q E
  | _ => False
def sp_l_cutting (K : PySem.W.Frag) : Sp := fun vs H Q E => match vs with
  | [a0, a1, a2] => P_l_cutting K a0 a1 a2 H Q E
  | _ => False
def sp_l_spoilt (K : PySem.W.Frag) : Sp := fun vs H Q E => match vs with
  | [a0, a1, a2, a3] => P_l_spoilt K a0 a1 a2 a3 H Q E
  | _ => False
def sp_l_called (K : PySem.W.Frag) : Sp := fun vs H Q E => match vs with
  | [a0, a1, a2, a3, a4, a5] => P_l_called K a0 a1 a2 a3 a4 a5 H Q E
  | _ => False
def sp_l_refused (K : PySem.W.Frag) : Sp := fun vs H Q E => match vs with
  | [a0, a1, a2, a3, a4, a5] => P_l_refused K a0 a1 a2 a3 a4 a5 H Q E
  | _ => False
def sp_l_all (K : PySem.W.Frag) : Sp := fun vs H Q E => match vs with
  | [a0, a1, a2, a3] => P_l_all K a0 a1 a2 a3 H Q E
  | _ => False
def sp_law (K : PySem.W.Frag) : Sp := fun vs H Q E => match vs with
  | [a0] => P_law K a0 H Q E
  | _ => False
/-! __init__(self, found): 0 self, 1 found -/
def t_NoCutting_init (K : PySem.W.Frag) (E : XK) : TS :=
  (tSeq (tDrop (tVeI K (tCons (tV 0) (tCons (tC (.str "what is no cutting here")) tNil))))
  (tOst K "found" (tV 0) (tV 1)))
/-! is_whole(thing, low, high): 0 thing, 1 low, 2 high -/
def t_is_whole (K : PySem.W.Frag) (E : XK) : TS :=
  (tRet (tAndU (tCB (rIsiU K) (tCons (tV 0) (tCons (tC (.ty "int")) tNil))) (tAndU (tNotU (tCB (rIsiU K) (tCons (tV 0) (tCons (tC (.ty "bool")) tNil)))) (tChU rLeU rLeU (tV 1) (tV 0) (tV 2)))))
/-! is_name(thing): 0 thing, 1 sign -/
def t_is_name (K : PySem.W.Frag) (E : XK) : TS :=
  (tSeq (uIf (uOr (tNot (tTru K (tCB (rIsiU K) (tCons (tV 0) (tCons (tC (.ty "str")) tNil))))) (tNot (tBo (tChU rLeU rLeU (tC (.int 1)) (tCB (rLenU K) (tCons (tV 0) tNil)) (tC (.int 8)))))) (tRet (tC (.bl false))) tNext)
  (tRet (tCB (rAll K) (tCons (lcE (seqOr K true (tV 0)) (gName 1) tYes (tOp (rInU K) (tV 1) (tC (.str "abcdefghijklmnopqrstuvwxyz"))) [1]) tNil))))
/-! fault_of(web, parts, thing): 0 web, 1 parts, 2 thing, 3 names, 4 name -/
def t_fault_of (K : PySem.W.Frag) (E : XK) : TS :=
  (tSeq (tAsg (tMethS (He.ga K "Web") "names" (sp_Web_names K) [] (fun _ => E) (tV 0) tNil) (gName 3))
  (tSeq (uIf (uOr (tNot (tTru K (tCB (rIsiU K) (tCons (tV 2) (tCons (tC (.ty "dict")) tNil))))) (uOr (tBo (tOp (rNeU K) (tCB (rLenU K) (tCons (tV 2) tNil)) (tCB (rLenU K) (tCons (tV 3) tNil)))) (tNot (tTru K (tCB (rAll K) (tCons (lcE (seqOr K true (tV 3)) (gName 4) tYes (tOp (rInU K) (tV 4) (tV 2)) [4]) tNil)))))) (tRet (tTup (tCons (tC (.str "form")) tNil))) tNext)
  (tSeq (forS (seqOr K true (tV 3)) (gName 4) (uIf (tNot (tTru K (tCallSD (sp_is_whole K) [] (fun _ => E) (tCons (tOp (rIxU K) (tV 2) (tV 4)) (tCons (tC (.int 0)) (tCons (tOp rSubU (tV 1) (tC (.int 1))) tNil)))))) (tRet (tTup (tCons (tC (.str "place")) (tCons (tV 4) tNil)))) tNext))
  (tRet (tC .non)))))
/-! need_cutting(web, parts, thing): 0 web, 1 parts, 2 thing -/
def t_need_cutting (K : PySem.W.Frag) (E : XK) : TS :=
  (uIf (tBo (tOp rIsnU (tCallSD (sp_fault_of K) [] (fun _ => E) (tCons (tV 0) (tCons (tV 1) (tCons (tV 2) tNil)))) (tC .non))) (uRaise (tMkO (He.ga K "NoCutting") (sp_NoCutting_init K) [] (tCons (tV 2) tNil)) (fun _ => E)) tNext)
/-! cut_ties(web, parts, cutting): 0 web, 1 parts, 2 cutting, 3 one, 4 other, 5 strength -/
def t_cut_ties (K : PySem.W.Frag) (E : XK) : TS :=
  (tSeq (tDrop (tCallSD (sp_need_cutting K) [] (fun _ => E) (tCons (tV 0) (tCons (tV 1) (tCons (tV 2) tNil)))))
  (tRet (lcE (seqC K (tMethS (He.ga K "Web") "ties" (sp_Web_ties K) [] (fun _ => E) (tV 0) tNil)) (gTup K 3 (gCons (gName 3) (gCons (gName 4) (gCons (gName 5) gNil)))) (tBo (tOp (rNeU K) (tOp (rIxU K) (tV 2) (tV 3)) (tOp (rIxU K) (tV 2) (tV 4)))) (tTup (tCons (tV 3) (tCons (tV 4) (tCons (tV 5) tNil)))) [3, 4, 5])))
/-! cut_strength(web, parts, cutting): 0 web, 1 parts, 2 cutting, 3 one, 4 other, 5 strength -/
def t_cut_strength (K : PySem.W.Frag) (E : XK) : TS :=
  (tRet (tCB (rSum K) (tCons (lcE (seqC K (tCallSD (sp_cut_ties K) [] (fun _ => E) (tCons (tV 0) (tCons (tV 1) (tCons (tV 2) tNil))))) (gTup K 3 (gCons (gName 3) (gCons (gName 4) (gCons (gName 5) gNil)))) tYes (tV 5) [3, 4, 5]) tNil)))
/-! part_weights(web, parts, cutting): 0 web, 1 parts, 2 cutting, 3 found, 4 name -/
def t_part_weights (K : PySem.W.Frag) (E : XK) : TS :=
  (tSeq (tDrop (tCallSD (sp_need_cutting K) [] (fun _ => E) (tCons (tV 0) (tCons (tV 1) (tCons (tV 2) tNil)))))
  (tSeq (tAsg (tOp rMulU (tLst (tCons (tC (.int 0)) tNil)) (tV 1)) (gName 3))
  (tSeq (forS (seqC K (tMethS (He.ga K "Web") "names" (sp_Web_names K) [] (fun _ => E) (tV 0) tNil)) (gName 4) (tAugS (tV 3) (tOp (rIxU K) (tV 2) (tV 4)) (tMethS (He.ga K "Web") "weight" (sp_Web_weight K) [] (fun _ => E) (tV 0) (tCons (tV 4) tNil)) (rGetU K) rIAddU rSetU))
  (tRet (tV 3)))))
/-! part_names(web, parts, cutting): 0 web, 1 parts, 2 cutting, 3 found, 4 name, 5 part -/
def t_part_names (K : PySem.W.Frag) (E : XK) : TS :=
  (tSeq (tDrop (tCallSD (sp_need_cutting K) [] (fun _ => E) (tCons (tV 0) (tCons (tV 1) (tCons (tV 2) tNil)))))
  (tSeq (lcS [(false, iRng1 (tCons (tV 1) tNil))] (gName 5) tYes (tLst tNil) [5] 3)
  (tSeq (forS (seqC K (tMethS (He.ga K "Web") "names" (sp_Web_names K) [] (fun _ => E) (tV 0) tNil)) (gName 4) (tDrop (tBM K "list" rAppend (tOp (rIxU K) (tV 3) (tOp (rIxU K) (tV 2) (tV 4))) (tCons (tV 4) tNil))))
  (tRet (tV 3)))))
/-! between_parts(web, parts, cutting): 0 web, 1 parts, 2 cutting, 3 found, 4 rising, 5 pair, 6 one, 7 other, 8 strength -/
def t_between_parts (K : PySem.W.Frag) (E : XK) : TS :=
  (tSeq (tAsg (fun σ H Q => tDNewK σ H Q ∨ tDNewT σ H Q) (gName 3))
  (tSeq (forS (seqC K (tCallSD (sp_cut_ties K) [] (fun _ => E) (tCons (tV 0) (tCons (tV 1) (tCons (tV 2) tNil))))) (gTup K 3 (gCons (gName 6) (gCons (gName 7) (gCons (gName 8) gNil)))) (tSeq (tAsg (tTup (tCons (tCB (rMinU K) (tCons (tOp (rIxU K) (tV 2) (tV 6)) (tCons (tOp (rIxU K) (tV 2) (tV 7)) tNil))) (tCons (tCB (rMaxU K) (tCons (tOp (rIxU K) (tV 2) (tV 6)) (tCons (tOp (rIxU K) (tV 2) (tV 7)) tNil))) tNil))) (gName 5))
  (tAsg (tOp (rAddU K) (tBM K "dict" rDGetM (tV 3) (tCons (tV 5) (tCons (tC (.int 0)) tNil))) (tV 8)) (gSub (tV 3) (tV 5) rSetU))))
  (tSeq (tAsg (fun σ H Q => tDNewK σ H Q ∨ tDNewT σ H Q) (gName 4))
  (tSeq (forS (seqC K (tCB (rSrtU K) (tCons (tV 3) tNil))) (gName 5) (tAsg (tOp (rIxU K) (tV 3) (tV 5)) (gSub (tV 4) (tV 5) rSetU)))
  (tRet (tV 4))))))
/-! first_beyond(web, rule, cutting): 0 web, 1 rule, 2 cutting, 3 part, 4 weight -/
def t_first_beyond (K : PySem.W.Frag) (E : XK) : TS :=
  (tSeq (forS [(false, iEnumU K (tCons (tCallSD (sp_part_weights K) [] (fun _ => E) (tCons (tV 0) (tCons (tFld K (tV 1) "parts") (tCons (tV 2) tNil)))) tNil)), (true, iEnumU K (tCons (tCallSD (sp_part_weights K) [] (fun _ => E) (tCons (tV 0) (tCons (tFld K (tV 1) "parts") (tCons (tV 2) tNil)))) tNil))] (gTup K 2 (gCons (gName 3) (gCons (gName 4) gNil))) (uIf (tNot (tTru K (tMethS (He.ga K "Rule") "does" (sp_Rule_does K) [] (fun _ => E) (tV 1) (tCons (tV 4) tNil)))) (tRet (tV 3)) tNext))
  (tRet (tC .non)))
/-! numbered(web, parts, cutting): 0 web, 1 parts, 2 cutting, 3 newer, 4 found, 5 name -/
def t_numbered (K : PySem.W.Frag) (E : XK) : TS :=
  (tSeq (tDrop (tCallSD (sp_need_cutting K) [] (fun _ => E) (tCons (tV 0) (tCons (tV 1) (tCons (tV 2) tNil)))))
  (tSeq (tAsg (fun σ H Q => tDNewK σ H Q ∨ tDNewT σ H Q) (gName 3))
  (tSeq (tAsg (fun σ H Q => tDNewK σ H Q ∨ tDNewT σ H Q) (gName 4))
  (tSeq (forS (seqC K (tMethS (He.ga K "Web") "names" (sp_Web_names K) [] (fun _ => E) (tV 0) tNil)) (gName 5) (tAsg (tDSetd (tV 3) (tOp (rIxU K) (tV 2) (tV 5)) (tCB (rLenU K) (tCons (tV 3) tNil))) (gSub (tV 4) (tV 5) rSetU)))
  (tRet (tV 4))))))
/-! apart_at(web, parts, one, other): 0 web, 1 parts, 2 one, 3 other, 4 name -/
def t_apart_at (K : PySem.W.Frag) (E : XK) : TS :=
  (tSeq (tDrop (tCallSD (sp_need_cutting K) [] (fun _ => E) (tCons (tV 0) (tCons (tV 1) (tCons (tV 2) tNil)))))
  (tSeq (tDrop (tCallSD (sp_need_cutting K) [] (fun _ => E) (tCons (tV 0) (tCons (tV 1) (tCons (tV 3) tNil)))))
  (tRet (lcE (seqC K (tMethS (He.ga K "Web") "names" (sp_Web_names K) [] (fun _ => E) (tV 0) tNil)) (gName 4) (tBo (tOp (rNeU K) (tOp (rIxU K) (tV 2) (tV 4)) (tOp (rIxU K) (tV 3) (tV 4)))) (tV 4) [4]))))
/-! orders_of(many): 0 many, 1 found, 2 turn, 3 longer, 4 order, 5 number -/
def t_orders_of (K : PySem.W.Frag) (E : XK) : TS :=
  (tSeq (tAsg (tLst (tCons (tTup tNil) tNil)) (gName 1))
  (tSeq (forS [(false, iRng1 (tCons (tV 0) tNil))] (gName 2) (tSeq (tAsg (tLst tNil) (gName 3))
  (tSeq (forS (seqOr K true (tV 1)) (gName 4) (tDrop (tBM K "list" rExtend (tV 3) (tCons (lcE [(false, iRng1 (tCons (tV 0) tNil))] (gName 5) (tBo (tOp (rNinU K) (tV 5) (tV 4))) (tOp (rAddU K) (tV 4) (tTup (tCons (tV 5) tNil))) [5]) tNil))))
  (tAsg (tV 3) (gName 1)))))
  (tRet (tV 1))))
/-! agreeing(table, order): 0 table, 1 order, 2 part, 3 number -/
def t_agreeing (K : PySem.W.Frag) (E : XK) : TS :=
  (tRet (tCB (rSum K) (tCons (lcE [(false, iEnumU K (tCons (tV 1) tNil)), (true, iEnumU K (tCons (tV 1) tNil))] (gTup K 2 (gCons (gName 2) (gCons (gName 3) gNil))) tYes (tOp (rIxU K) (tOp (rIxU K) (tV 0) (tV 2)) (tV 3)) [2, 3]) tNil)))
/-! nearest(web, parts, one, other): 0 web, 1 parts, 2 one, 3 other, 4 table, 5 name, 6 best, 7 most, 8 order, 9 found, 10 many, 11 part -/
def t_nearest (K : PySem.W.Frag) (E : XK) : TS :=
  (tSeq (tDrop (tCallSD (sp_need_cutting K) [] (fun _ => E) (tCons (tV 0) (tCons (tV 1) (tCons (tV 2) tNil)))))
  (tSeq (tDrop (tCallSD (sp_need_cutting K) [] (fun _ => E) (tCons (tV 0) (tCons (tV 1) (tCons (tV 3) tNil)))))
  (tSeq (lcS [(false, iRng1 (tCons (tV 1) tNil))] (gName 11) tYes (tOp rMulU (tLst (tCons (tC (.int 0)) tNil)) (tV 1)) [11] 4)
  (tSeq (forS (seqC K (tMethS (He.ga K "Web") "names" (sp_Web_names K) [] (fun _ => E) (tV 0) tNil)) (gName 5) (tAugS (tOp (rIxU K) (tV 4) (tOp (rIxU K) (tV 2) (tV 5))) (tOp (rIxU K) (tV 3) (tV 5)) (tC (.int 1)) (rGetU K) rIAddU rSetU))
  (tSeq (tAsg (tC .non) (gName 6))
  (tSeq (tAsg (tUn rNegU (tC (.int 1))) (gName 7))
  (tSeq (forS (seqC K (tCallSD (sp_orders_of K) [] (fun _ => E) (tCons (tV 1) tNil))) (gName 8) (tSeq (tAsg (tCallSD (sp_agreeing K) [] (fun _ => E) (tCons (tV 4) (tCons (tV 8) tNil))) (gName 10))
  (uIf (tBo (tOp rGtU (tV 10) (tV 7))) (tSeq (tAsg (tV 8) (gName 6))
  (tAsg (tV 10) (gName 7))) tNext)))
  (tSeq (tAsg (fun σ H Q => tDNewK σ H Q ∨ tDNewT σ H Q) (gName 9))
  (tSeq (forS (seqC K (tMethS (He.ga K "Web") "names" (sp_Web_names K) [] (fun _ => E) (tV 0) tNil)) (gName 5) (tAsg (tOp (rIxU K) (tV 6) (tOp (rIxU K) (tV 2) (tV 5))) (gSub (tV 9) (tV 5) rSetU)))
  (tRet (tV 9)))))))))))
/-! __init__(self, parts, low, high): 0 self, 1 parts, 2 low, 3 high -/
def t_Rule_init (K : PySem.W.Frag) (E : XK) : TS :=
  (tSeq (uIf (tNot (tTru K (tCallSD (sp_is_whole K) [] (fun _ => E) (tCons (tV 1) (tCons (tC (.int 2)) (tCons (tC (.int 6)) tNil)))))) uNever tNext)
  (tSeq (uIf (tNot (tTru K (tCallSD (sp_is_whole K) [] (fun _ => E) (tCons (tV 2) (tCons (tC (.int 0)) (tCons (tC (.int 1000000000)) tNil)))))) uNever tNext)
  (tSeq (uIf (tNot (tTru K (tCallSD (sp_is_whole K) [] (fun _ => E) (tCons (tV 3) (tCons (tCB (rMaxU K) (tCons (tC (.int 1)) (tCons (tV 2) tNil))) (tCons (tC (.int 1000000000)) tNil)))))) uNever tNext)
  (tSeq (sFld K (tV 0) (tV 1) "parts")
  (tSeq (sFld K (tV 0) (tV 2) "low")
  (sFld K (tV 0) (tV 3) "high"))))))
/-! does(self, weight): 0 self, 1 weight -/
def t_Rule_does (K : PySem.W.Frag) (E : XK) : TS :=
  (tRet (tChU rLeU rLeU (tFld K (tV 0) "low") (tV 1) (tFld K (tV 0) "high")))
/-! __init__(self): 0 self -/
def t_Web_init (K : PySem.W.Frag) (E : XK) : TS :=
  (tSeq (sFld K (tV 0) (fun σ H Q => tDNewK σ H Q ∨ tDNewT σ H Q) "heavy")
  (sFld K (tV 0) (fun σ H Q => tDNewK σ H Q ∨ tDNewT σ H Q) "knots"))
/-! need_place(self, name): 0 self, 1 name -/
def t_Web_need_place (K : PySem.W.Frag) (E : XK) : TS :=
  (uIf (uOr (tNot (tTru K (tCB (rIsiU K) (tCons (tV 1) (tCons (tC (.ty "str")) tNil))))) (tBo (tOp (rNinU K) (tV 1) (tFld K (tV 0) "heavy")))) uNever tNext)
/-! need_two(self, one, other): 0 self, 1 one, 2 other -/
def t_Web_need_two (K : PySem.W.Frag) (E : XK) : TS :=
  (tSeq (tDrop (tMethS (He.ga K "Web") "need_place" (sp_Web_need_place K) [] (fun _ => E) (tV 0) (tCons (tV 1) tNil)))
  (tSeq (tDrop (tMethS (He.ga K "Web") "need_place" (sp_Web_need_place K) [] (fun _ => E) (tV 0) (tCons (tV 2) tNil)))
  (uIf (tBo (tOp (rEqU K) (tV 1) (tV 2))) uNever tNext)))
/-! knot(self, one, other): 0 self, 1 one, 2 other -/
def t_Web_knot (K : PySem.W.Frag) (E : XK) : TS :=
  (tSeq (uIf (tBo (tOp (rInU K) (tTup (tCons (tV 1) (tCons (tV 2) tNil))) (tFld K (tV 0) "knots"))) (tRet (tTup (tCons (tV 1) (tCons (tV 2) tNil)))) tNext)
  (tSeq (uIf (tBo (tOp (rInU K) (tTup (tCons (tV 2) (tCons (tV 1) tNil))) (tFld K (tV 0) "knots"))) (tRet (tTup (tCons (tV 2) (tCons (tV 1) tNil)))) tNext)
  (tRet (tC .non))))
/-! need_tie(self, one, other): 0 self, 1 one, 2 other, 3 found -/
def t_Web_need_tie (K : PySem.W.Frag) (E : XK) : TS :=
  (tSeq (tDrop (tMethS (He.ga K "Web") "need_two" (sp_Web_need_two K) [] (fun _ => E) (tV 0) (tCons (tV 1) (tCons (tV 2) tNil))))
  (tSeq (tAsg (tMethS (He.ga K "Web") "knot" (sp_Web_knot K) [] (fun _ => E) (tV 0) (tCons (tV 1) (tCons (tV 2) tNil))) (gName 3))
  (tSeq (uIf (tBo (tOp rIsU (tV 3) (tC .non))) uNever tNext)
  (tRet (tV 3)))))
/-! need_weight(self, weight): 0 self, 1 weight -/
def t_Web_need_weight (K : PySem.W.Frag) (E : XK) : TS :=
  (uIf (tNot (tTru K (tCallSD (sp_is_whole K) [] (fun _ => E) (tCons (tV 1) (tCons (tC (.int 1)) (tCons (tC (.int 1000000000)) tNil)))))) uNever tNext)
/-! put(self, name, weight): 0 self, 1 name, 2 weight -/
def t_Web_put (K : PySem.W.Frag) (E : XK) : TS :=
  (tSeq (uIf (tNot (tTru K (tCallSD (sp_is_name K) [] (fun _ => E) (tCons (tV 1) tNil)))) uNever tNext)
  (tSeq (tDrop (tMethS (He.ga K "Web") "need_weight" (sp_Web_need_weight K) [] (fun _ => E) (tV 0) (tCons (tV 2) tNil)))
  (tSeq (uIf (tBo (tOp (rInU K) (tV 1) (tFld K (tV 0) "heavy"))) uNever tNext)
  (tSeq (uIf (tBo (tOp rGeU (tCB (rLenU K) (tCons (tFld K (tV 0) "heavy") tNil)) (tC (.int 60)))) uNever tNext)
  (tSeq (uIf (tBo (tOp rGtU (tOp (rAddU K) (tMethS (He.ga K "Web") "total" (sp_Web_total K) [] (fun _ => E) (tV 0) tNil) (tV 2)) (tC (.int 1000000000)))) uNever tNext)
  (tAsg (tV 2) (gSub (tFld K (tV 0) "heavy") (tV 1) rSetU)))))))
/-! weigh(self, name, weight): 0 self, 1 name, 2 weight, 3 behind -/
def t_Web_weigh (K : PySem.W.Frag) (E : XK) : TS :=
  (tSeq (tDrop (tMethS (He.ga K "Web") "need_place" (sp_Web_need_place K) [] (fun _ => E) (tV 0) (tCons (tV 1) tNil)))
  (tSeq (tDrop (tMethS (He.ga K "Web") "need_weight" (sp_Web_need_weight K) [] (fun _ => E) (tV 0) (tCons (tV 2) tNil)))
  (tSeq (tAsg (tOp (rAddU K) (tOp rSubU (tMethS (He.ga K "Web") "total" (sp_Web_total K) [] (fun _ => E) (tV 0) tNil) (tOp (rIxU K) (tFld K (tV 0) "heavy") (tV 1))) (tV 2)) (gName 3))
  (tSeq (uIf (tBo (tOp rGtU (tV 3) (tC (.int 1000000000)))) uNever tNext)
  (tAsg (tV 2) (gSub (tFld K (tV 0) "heavy") (tV 1) rSetU))))))
/-! tie(self, one, other, strength): 0 self, 1 one, 2 other, 3 strength -/
def t_Web_tie (K : PySem.W.Frag) (E : XK) : TS :=
  (tSeq (tDrop (tMethS (He.ga K "Web") "need_two" (sp_Web_need_two K) [] (fun _ => E) (tV 0) (tCons (tV 1) (tCons (tV 2) tNil))))
  (tSeq (uIf (tNot (tTru K (tCallSD (sp_is_whole K) [] (fun _ => E) (tCons (tV 3) (tCons (tC (.int 1)) (tCons (tC (.int 1000000000)) tNil)))))) uNever tNext)
  (tSeq (uIf (tBo (tOp rIsnU (tMethS (He.ga K "Web") "knot" (sp_Web_knot K) [] (fun _ => E) (tV 0) (tCons (tV 1) (tCons (tV 2) tNil))) (tC .non))) uNever tNext)
  (tSeq (uIf (tBo (tOp rGeU (tCB (rLenU K) (tCons (tFld K (tV 0) "knots") tNil)) (tC (.int 200)))) uNever tNext)
  (tSeq (uIf (tBo (tOp rGtU (tOp (rAddU K) (tMethS (He.ga K "Web") "force" (sp_Web_force K) [] (fun _ => E) (tV 0) tNil) (tV 3)) (tC (.int 1000000000)))) uNever tNext)
  (tAsg (tV 3) (gSub (tFld K (tV 0) "knots") (tTup (tCons (tV 1) (tCons (tV 2) tNil))) rSetU)))))))
/-! more(self, one, other, by): 0 self, 1 one, 2 other, 3 by, 4 found -/
def t_Web_more (K : PySem.W.Frag) (E : XK) : TS :=
  (tSeq (tAsg (tMethS (He.ga K "Web") "need_tie" (sp_Web_need_tie K) [] (fun _ => E) (tV 0) (tCons (tV 1) (tCons (tV 2) tNil))) (gName 4))
  (tSeq (uIf (uOr (tNot (tTru K (tCallSD (sp_is_whole K) [] (fun _ => E) (tCons (tV 3) (tCons (tOp rSubU (tC (.int 0)) (tC (.int 1000000000))) (tCons (tC (.int 1000000000)) tNil)))))) (tBo (tOp rLtU (tOp (rAddU K) (tOp (rIxU K) (tFld K (tV 0) "knots") (tV 4)) (tV 3)) (tC (.int 1))))) uNever tNext)
  (tSeq (uIf (tBo (tOp rGtU (tOp (rAddU K) (tMethS (He.ga K "Web") "force" (sp_Web_force K) [] (fun _ => E) (tV 0) tNil) (tV 3)) (tC (.int 1000000000)))) uNever tNext)
  (tAugS (tFld K (tV 0) "knots") (tV 4) (tV 3) (rGetU K) rIAddU rSetU))))
/-! names(self): 0 self -/
def t_Web_names (K : PySem.W.Frag) (E : XK) : TS :=
  (tRet (tCB (rListDU K) (tCons (tFld K (tV 0) "heavy") tNil)))
/-! weight(self, name): 0 self, 1 name -/
def t_Web_weight (K : PySem.W.Frag) (E : XK) : TS :=
  (tSeq (tDrop (tMethS (He.ga K "Web") "need_place" (sp_Web_need_place K) [] (fun _ => E) (tV 0) (tCons (tV 1) tNil)))
  (tRet (tOp (rIxU K) (tFld K (tV 0) "heavy") (tV 1))))
/-! ties(self): 0 self, 1 ranks, 2 found, 3 at, 4 name, 5 strength, 6 one, 7 other -/
def t_Web_ties (K : PySem.W.Frag) (E : XK) : TS :=
  (tSeq (tAsg (fun σ H Q => tDNewK σ H Q ∨ tDNewT σ H Q) (gName 1))
  (tSeq (forS [(false, iEnumU K (tCons (tFld K (tV 0) "heavy") tNil)), (true, iEnumU K (tCons (tFld K (tV 0) "heavy") tNil))] (gTup K 2 (gCons (gName 3) (gCons (gName 4) gNil))) (tAsg (tV 3) (gSub (tV 1) (tV 4) rSetU)))
  (tSeq (tAsg (tLst tNil) (gName 2))
  (tSeq (forS [(true, iItemsU (tFld K (tV 0) "knots"))] (gTup K 2 (gCons (gTup K 2 (gCons (gName 6) (gCons (gName 7) gNil))) (gCons (gName 5) gNil))) (uIf (tBo (tOp rLtU (tOp (rIxU K) (tV 1) (tV 6)) (tOp (rIxU K) (tV 1) (tV 7)))) (tDrop (tBM K "list" rAppend (tV 2) (tCons (tTup (tCons (tV 6) (tCons (tV 7) (tCons (tV 5) tNil)))) tNil))) (tDrop (tBM K "list" rAppend (tV 2) (tCons (tTup (tCons (tV 7) (tCons (tV 6) (tCons (tV 5) tNil)))) tNil)))))
  (tRet (tV 2))))))
/-! strength(self, one, other): 0 self, 1 one, 2 other, 3 found -/
def t_Web_strength (K : PySem.W.Frag) (E : XK) : TS :=
  (tSeq (tDrop (tMethS (He.ga K "Web") "need_place" (sp_Web_need_place K) [] (fun _ => E) (tV 0) (tCons (tV 1) tNil)))
  (tSeq (tDrop (tMethS (He.ga K "Web") "need_place" (sp_Web_need_place K) [] (fun _ => E) (tV 0) (tCons (tV 2) tNil)))
  (tSeq (tAsg (tMethS (He.ga K "Web") "knot" (sp_Web_knot K) [] (fun _ => E) (tV 0) (tCons (tV 1) (tCons (tV 2) tNil))) (gName 3))
  (tSeq (uIf (tBo (tOp rIsU (tV 3) (tC .non))) (tRet (tC (.int 0))) tNext)
  (tRet (tOp (rIxU K) (tFld K (tV 0) "knots") (tV 3)))))))
/-! total(self): 0 self, 1 weight -/
def t_Web_total (K : PySem.W.Frag) (E : XK) : TS :=
  (tRet (tCB (rSum K) (tCons (lcE [(true, iValsU (tFld K (tV 0) "heavy"))] (gName 1) tYes (tV 1) [1]) tNil)))
/-! force(self): 0 self, 1 strength -/
def t_Web_force (K : PySem.W.Frag) (E : XK) : TS :=
  (tRet (tCB (rSum K) (tCons (lcE [(true, iValsU (tFld K (tV 0) "knots"))] (gName 1) tYes (tV 1) [1]) tNil)))
/-! _law_cell(_law_script, _law_k): 0 _law_script, 1 _law_k -/
def t_l_cell (K : PySem.W.Frag) (E : XK) : TS :=
  (tSeq (uIf (tBo (tOp rLtU (tV 1) (tCB (rLenU K) (tCons (tV 0) tNil)))) (tRet (tOp (rIxU K) (tV 0) (tV 1))) tNext)
  (tRet (tC (.int 0))))
/-! _law_purse(_law_cell_here): 0 _law_cell_here -/
def t_l_purse (K : PySem.W.Frag) (E : XK) : TS :=
  (tRet (tDisp [((tC (.str "left")), (tCB (rMaxU K) (tCons (tC (.int 0)) (tCons (tOp rSubU (tV 0) (tOp rPowU (tC (.int 10)) (tC (.int 18)))) tNil)))), ((tC (.str "seed")), (tOp rModU (tV 0) (tC (.int 2147483647)))), ((tC (.str "at")), (tC (.int 0)))]))
/-! _law_take(_law_purse_here, _law_many): 0 _law_purse_here, 1 _law_many, 2 _law_number, 3 _law_digit -/
def t_l_take (K : PySem.W.Frag) (E : XK) : TS :=
  (tSeq (uIf (tBo (tOp rGtU (tOp (rIxU K) (tV 0) (tC (.str "left"))) (tC (.int 0)))) (tSeq (tAsg (tOp rModU (tOp (rIxU K) (tV 0) (tC (.str "left"))) (tV 1)) (gName 3))
  (tSeq (tAsg (tOp rDivU (tOp (rIxU K) (tV 0) (tC (.str "left"))) (tV 1)) (gSub (tV 0) (tC (.str "left")) rSetU))
  (tRet (tV 3)))) tNext)
  (tSeq (tAsg (tOp (rAddU K) (tOp (rIxU K) (tV 0) (tC (.str "at"))) (tC (.int 1))) (gSub (tV 0) (tC (.str "at")) rSetU))
  (tSeq (tAsg (tOp rModU (tOp rMulU (tOp (rAddU K) (tOp (rIxU K) (tV 0) (tC (.str "seed"))) (tOp rMulU (tC (.int 7919)) (tOp (rIxU K) (tV 0) (tC (.str "at"))))) (tC (.int 48271))) (tC (.int 2147483647))) (gName 2))
  (tSeq (tAsg (tOp rModU (tOp rMulU (tV 2) (tV 2)) (tC (.int 2147483629))) (gName 2))
  (tSeq (tAsg (tOp rModU (tOp rMulU (tOp (rAddU K) (tV 2) (tC (.int 104729))) (tOp (rAddU K) (tV 2) (tOp (rIxU K) (tV 0) (tC (.str "at"))))) (tC (.int 2147483587))) (gName 2))
  (tRet (tOp rModU (tOp rDivU (tOp rModU (tOp rMulU (tV 2) (tOp (rAddU K) (tV 2) (tC (.int 16807)))) (tC (.int 2147483579))) (tC (.int 7))) (tV 1))))))))
/-! _law_names(_law_purse_here, _law_many): 0 _law_purse_here, 1 _law_many, 2 _law_letters, 3 _law_base, 4 _law_first, 5 _law_shift, 6 _law_found, 7 _law_k, 8 _law_head -/
def t_l_names (K : PySem.W.Frag) (E : XK) : TS :=
  (tSeq (tAsg (tC (.str "abcdefghijklmnopqrstuvwxyz")) (gName 2))
  (tSeq (tAsg (tBM K "str" (rJoinU K) (tC (.str "")) (tCons (lcE [(false, iRng1 (tCons (tC (.int 8)) tNil))] (gName 7) tYes (tOp (rIxU K) (tV 2) (tCallSD (sp_l_take K) [] EZ (tCons (tV 0) (tCons (tC (.int 26)) tNil)))) [7]) tNil)) (gName 3))
  (tSeq (tAsg (tCallSD (sp_l_take K) [] (fun _ => E) (tCons (tV 0) (tCons (tC (.int 26)) tNil))) (gName 4))
  (tSeq (tAsg (tCallSD (sp_l_take K) [] (fun _ => E) (tCons (tV 0) (tCons (tC (.int 7)) tNil))) (gName 5))
  (tSeq (uIf (uAnd (tBo (tOp rLtU (tV 1) (tC (.int 9)))) (tBo (tOp (rEqU K) (tCallSD (sp_l_take K) [] (fun _ => E) (tCons (tV 0) (tCons (tC (.int 4)) tNil))) (tC (.int 0))))) (tRet (lcE [(false, iRng1 (tCons (tV 1) tNil))] (gName 7) tYes (tSl (rSlU K) (tV 3) tNoPart (tPart (tOp (rAddU K) (tC (.int 1)) (tOp rModU (tOp (rAddU K) (tV 7) (tV 5)) (tC (.int 8)))))) [7])) tNext)
  (tSeq (tAsg (tLst tNil) (gName 6))
  (tSeq (forS [(false, iRng1 (tCons (tV 1) tNil))] (gName 7) (tSeq (tAsg (tOp (rIxU K) (tV 2) (tOp rModU (tOp (rAddU K) (tV 4) (tOp rMulU (tC (.int 7)) (tV 7))) (tC (.int 26)))) (gName 8))
  (tSeq (tAsg (tOp (rAddU K) (tV 8) (tOp (rIxU K) (tV 2) (tOp rModU (tOp (rAddU K) (tOp (rAddU K) (tV 4) (tV 5)) (tOp rDivU (tV 7) (tC (.int 26)))) (tC (.int 26))))) (gName 8))
  (tDrop (tBM K "list" rAppend (tV 6) (tCons (tOp (rAddU K) (tV 8) (tSl (rSlU K) (tV 3) tNoPart (tPart (tOp rModU (tOp (rAddU K) (tOp rMulU (tV 7) (tV 7)) (tV 5)) (tC (.int 7)))))) tNil))))))
  (tRet (tV 6)))))))))
/-! _law_size(_law_purse_here, _law_kind, _law_most): 0 _law_purse_here, 1 _law_kind, 2 _law_most, 3 _law_some -/
def t_l_size (K : PySem.W.Frag) (E : XK) : TS :=
  (tSeq (tAsg (tLst (tCons (tOp (rAddU K) (tC (.int 1)) (tCallSD (sp_l_take K) [] (fun _ => E) (tCons (tV 0) (tCons (tC (.int 9)) tNil)))) (tCons (tOp (rAddU K) (tC (.int 1)) (tCallSD (sp_l_take K) [] (fun _ => E) (tCons (tV 0) (tCons (tC (.int 1000)) tNil)))) (tCons (tOp (rAddU K) (tC (.int 1)) (tCallSD (sp_l_take K) [] (fun _ => E) (tCons (tV 0) (tCons (tV 2) tNil)))) (tCons (tC (.int 5)) tNil))))) (gName 3))
  (tRet (tOp (rIxU K) (tV 3) (tV 1))))
/-! _law_pairs(_law_purse_here, _law_many, _law_count): 0 _law_purse_here, 1 _law_many, 2 _law_count, 3 _law_found, 4 _law_k, 5 _law_one, 6 _law_other, 7 _law_pair -/
def t_l_pairs (K : PySem.W.Frag) (E : XK) : TS :=
  (tSeq (tAsg (tLst tNil) (gName 3))
  (tSeq (forS [(false, iRng1 (tCons (tV 2) tNil))] (gName 4) (tSeq (tAsg (tCallSD (sp_l_take K) [] (fun _ => E) (tCons (tV 0) (tCons (tV 1) tNil))) (gName 5))
  (tSeq (tAsg (tCallSD (sp_l_take K) [] (fun _ => E) (tCons (tV 0) (tCons (tV 1) tNil))) (gName 6))
  (tSeq (tAsg (tTup (tCons (tCB (rMinU K) (tCons (tV 5) (tCons (tV 6) tNil))) (tCons (tCB (rMaxU K) (tCons (tV 5) (tCons (tV 6) tNil))) tNil))) (gName 7))
  (uIf (uAnd (tBo (tOp (rNeU K) (tV 5) (tV 6))) (tBo (tOp (rNinU K) (tV 7) (tV 3)))) (tDrop (tBM K "list" rAppend (tV 3) (tCons (tV 7) tNil))) tNext)))))
  (tRet (tV 3))))
/-! _law_web(_law_purse_here, _law_many): 0 _law_purse_here, 1 _law_many, 2 _law_names_here, 3 _law_kind, 4 _law_weights, 5 _law_ties, 6 _law_web_here, 7 _law_name, 8 _law_weight, 9 _law_one, 10 _law_other, 11 _law_strength, 12 _law_ends -/
def t_l_web (K : PySem.W.Frag) (E : XK) : TS :=
  (tSeq (tAsg (tCallSD (sp_l_names K) [] (fun _ => E) (tCons (tV 0) (tCons (tV 1) tNil))) (gName 2))
  (tSeq (tAsg (tCallSD (sp_l_take K) [] (fun _ => E) (tCons (tV 0) (tCons (tC (.int 4)) tNil))) (gName 3))
  (tSeq (lcS (seqOr K true (tV 2)) (gName 7) tYes (tCallSD (sp_l_size K) [] EZ (tCons (tV 0) (tCons (tV 3) (tCons (tC (.int 16000000)) tNil)))) [7] 4)
  (tSeq (tAsg (tLst tNil) (gName 5))
  (tSeq (tAsg (tCallSD (sp_l_take K) [] (fun _ => E) (tCons (tV 0) (tCons (tC (.int 4)) tNil))) (gName 3))
  (tCut (uIf (tBo (tOp rGtU (tV 1) (tC (.int 1)))) (forS (seqC K (tCallSD (sp_l_pairs K) [] (fun _ => E) (tCons (tV 0) (tCons (tV 1) (tCons (tCallSD (sp_l_take K) [] (fun _ => E) (tCons (tV 0) (tCons (tOp rMulU (tC (.int 3)) (tV 1)) tNil))) tNil))))) (gTup K 2 (gCons (gName 9) (gCons (gName 10) gNil))) (tDrop (tBM K "list" rAppend (tV 5) (tCons (tTup (tCons (tV 9) (tCons (tV 10) (tCons (tCallSD (sp_l_size K) [] (fun _ => E) (tCons (tV 0) (tCons (tV 3) (tCons (tC (.int 5000000)) tNil)))) tNil)))) tNil)))) tNext)
  (tSeq (tAsg (tMakeS (He.ga K "Web") (sp_Web_init K) [] (fun _ => E) tNil) (gName 6))
  (tSeq (forS [(false, iZip K (tCons (tV 2) (tCons (tV 4) tNil)))] (gTup K 2 (gCons (gName 7) (gCons (gName 8) gNil))) (tDrop (tMethS (He.ga K "Web") "put" (sp_Web_put K) [] (fun _ => E) (tV 6) (tCons (tV 7) (tCons (tV 8) tNil)))))
  (tSeq (forS (seqOr K true (tV 5)) (gTup K 3 (gCons (gName 9) (gCons (gName 10) (gCons (gName 11) gNil)))) (tSeq (tAsg (tStp K (tLst (tCons (tOp (rIxU K) (tV 2) (tV 9)) (tCons (tOp (rIxU K) (tV 2) (tV 10)) tNil))) (tOp rSubU (tC (.int 1)) (tOp rMulU (tC (.int 2)) (tOp rModU (tV 11) (tC (.int 2)))))) (gName 12))
  (tDrop (tMethS (He.ga K "Web") "tie" (sp_Web_tie K) [] (fun _ => E) (tV 6) (tCons (tOp (rIxU K) (tV 12) (tC (.int 0))) (tCons (tOp (rIxU K) (tV 12) (tC (.int 1))) (tCons (tV 11) tNil)))))))
  (tRet (tTup (tCons (tV 6) (tCons (tV 2) (tCons (tV 4) (tCons (tV 5) tNil)))))))))))))))
/-! _law_cutting(_law_purse_here, _law_names_here, _law_parts): 0 _law_purse_here, 1 _law_names_here, 2 _law_parts, 3 _law_found, 4 _law_at, 5 _law_told, 6 _law_name, 7 _law_part -/
def t_l_cutting (K : PySem.W.Frag) (E : XK) : TS :=
  (tSeq (tAsg (fun σ H Q => tDNewK σ H Q ∨ tDNewT σ H Q) (gName 3))
  (tSeq (tAsg (tCallSD (sp_l_take K) [] (fun _ => E) (tCons (tV 0) (tCons (tOp (rAddU K) (tCB (rLenU K) (tCons (tV 1) tNil)) (tC (.int 1))) tNil))) (gName 4))
  (tSeq (lcS (seqOr K true (tV 1)) (gName 6) tYes (tCallSD (sp_l_take K) [] EZ (tCons (tV 0) (tCons (tV 2) tNil))) [6] 5)
  (tSeq (forS (seqOr K false (tOp (rAddU K) (tSl (rSlU K) (tLZ K (tCons (tV 1) (tCons (tV 5) tNil))) (tPart (tV 4)) tNoPart) (tSl (rSlU K) (tLZ K (tCons (tV 1) (tCons (tV 5) tNil))) tNoPart (tPart (tV 4))))) (gTup K 2 (gCons (gName 6) (gCons (gName 7) gNil))) (tAsg (tV 7) (gSub (tV 3) (tV 6) rSetU)))
  (tRet (tTup (tCons (tV 3) (tCons (tV 5) tNil))))))))
/-! _law_spoilt(_law_purse_here, _law_names_here, _law_cutting_here, _law_parts): 0 _law_purse_here, 1 _law_names_here, 2 _law_cutting_here, 3 _law_parts, 4 _law_found, 5 _law_name, 6 _law_way -/
def t_l_spoilt (K : PySem.W.Frag) (E : XK) : TS :=
  (tSeq (tAsg (tCB (rDictU K) (tCons (tV 2) tNil)) (gName 4))
  (tSeq (tAsg (tOp (rIxU K) (tV 1) (tCallSD (sp_l_take K) [] (fun _ => E) (tCons (tV 0) (tCons (tCB (rLenU K) (tCons (tV 1) tNil)) tNil)))) (gName 5))
  (tSeq (tAsg (tCallSD (sp_l_take K) [] (fun _ => E) (tCons (tV 0) (tCons (tC (.int 4)) tNil))) (gName 6))
  (tCut (uIf (tBo (tOp (rEqU K) (tV 6) (tC (.int 0)))) (tDrop (fun σ H Q => tBM K "list" (fun x xs H Q => rPop x xs H Q ∨ rPopAt x xs H Q) (tV 4) (tCons (tV 5) tNil) σ H Q ∨ tBM K "dict" rDPopM (tV 4) (tCons (tV 5) tNil) σ H Q)) (uIf (tBo (tOp (rEqU K) (tV 6) (tC (.int 1)))) (tAsg (tC (.int 0)) (gSub (tV 4) (tC (.str "none of it")) rSetU)) (uIf (tBo (tOp (rEqU K) (tV 6) (tC (.int 2)))) (tSeq (tDrop (fun σ H Q => tBM K "list" (fun x xs H Q => rPop x xs H Q ∨ rPopAt x xs H Q) (tV 4) (tCons (tV 5) tNil) σ H Q ∨ tBM K "dict" rDPopM (tV 4) (tCons (tV 5) tNil) σ H Q))
  (tAsg (tC (.int 0)) (gSub (tV 4) (tC (.str "A")) rSetU))) (tAsg (tOp (rIxU K) (tLst (tCons (tUn rNegU (tC (.int 1))) (tCons (tV 3) (tCons (tC (.bl true)) (tCons (tC .non) (tCons (tC (.str "0")) (tCons (tLst (tCons (tC (.int 1)) tNil)) (tCons (tOp rSubU (tOp rPowU (tC (.int 10)) (tC (.int 30))) (tC (.int 1))) tNil)))))))) (tCallSD (sp_l_take K) [] (fun _ => E) (tCons (tV 0) (tCons (tC (.int 7)) tNil)))) (gSub (tV 4) (tV 5) rSetU)))))
  (tRet (tV 4))))))
/-! _law_called(_law_web_here, _law_parts, _law_rule, _law_good, _law_thing, _law_door): 0 _law_web_here, 1 _law_parts, 2 _law_rule, 3 _law_good, 4 _law_thing, 5 _law_door -/
def t_l_called (K : PySem.W.Frag) (E : XK) : TS :=
  (tSeq (uIf (tBo (tOp (rEqU K) (tV 5) (tC (.int 0)))) (tRet (tCallSD (sp_cut_ties K) [] (fun _ => E) (tCons (tV 0) (tCons (tV 1) (tCons (tV 4) tNil))))) tNext)
  (tSeq (uIf (tBo (tOp (rEqU K) (tV 5) (tC (.int 1)))) (tRet (tCallSD (sp_cut_strength K) [] (fun _ => E) (tCons (tV 0) (tCons (tV 1) (tCons (tV 4) tNil))))) tNext)
  (tSeq (uIf (tBo (tOp (rEqU K) (tV 5) (tC (.int 2)))) (tRet (tCallSD (sp_part_weights K) [] (fun _ => E) (tCons (tV 0) (tCons (tV 1) (tCons (tV 4) tNil))))) tNext)
  (tSeq (uIf (tBo (tOp (rEqU K) (tV 5) (tC (.int 3)))) (tRet (tCallSD (sp_part_names K) [] (fun _ => E) (tCons (tV 0) (tCons (tV 1) (tCons (tV 4) tNil))))) tNext)
  (tSeq (uIf (tBo (tOp (rEqU K) (tV 5) (tC (.int 4)))) (tRet (tCallSD (sp_between_parts K) [] (fun _ => E) (tCons (tV 0) (tCons (tV 1) (tCons (tV 4) tNil))))) tNext)
  (tSeq (uIf (tBo (tOp (rEqU K) (tV 5) (tC (.int 5)))) (tRet (tCallSD (sp_first_beyond K) [] (fun _ => E) (tCons (tV 0) (tCons (tV 2) (tCons (tV 4) tNil))))) tNext)
  (tSeq (uIf (tBo (tOp (rEqU K) (tV 5) (tC (.int 6)))) (tRet (tCallSD (sp_numbered K) [] (fun _ => E) (tCons (tV 0) (tCons (tV 1) (tCons (tV 4) tNil))))) tNext)
  (tSeq (uIf (tBo (tOp (rEqU K) (tV 5) (tC (.int 7)))) (tRet (tCallSD (sp_apart_at K) [] (fun _ => E) (tCons (tV 0) (tCons (tV 1) (tCons (tV 4) (tCons (tC .non) tNil)))))) tNext)
  (tSeq (uIf (tBo (tOp (rEqU K) (tV 5) (tC (.int 8)))) (tRet (tCallSD (sp_apart_at K) [] (fun _ => E) (tCons (tV 0) (tCons (tV 1) (tCons (tV 3) (tCons (tV 4) tNil)))))) tNext)
  (tSeq (uIf (tBo (tOp (rEqU K) (tV 5) (tC (.int 9)))) (tRet (tCallSD (sp_nearest K) [] (fun _ => E) (tCons (tV 0) (tCons (tV 1) (tCons (tV 4) (tCons (tC .non) tNil)))))) tNext)
  (tRet (tCallSD (sp_nearest K) [] (fun _ => E) (tCons (tV 0) (tCons (tV 1) (tCons (tV 3) (tCons (tV 4) tNil))))))))))))))))
/-! _law_refused(_law_web_here, _law_parts, _law_rule, _law_good, _law_thing, _law_door): 0 _law_web_here, 1 _law_parts, 2 _law_rule, 3 _law_good, 4 _law_thing, 5 _law_door, 6 _law_found, 7 e -/
def t_l_refused (K : PySem.W.Frag) (E : XK) : TS :=
  (tSeq (tAsg (tC .non) (gName 6))
  (tSeq (uTry K (.ref (He.ga K "CutError")) 7 (fun W => (tDrop (tCallSD (sp_l_called K) [] (eW W) (tCons (tV 0) (tCons (tV 1) (tCons (tV 2) (tCons (tV 3) (tCons (tV 4) (tCons (tV 5) tNil))))))))) (fun a c d => (uIf (uAnd (tTru K (tCB (rIsi2 K a c d) (tCons (tV 7) (tCons (tC (.ref (He.ga K "NoCutting"))) tNil)))) (uAnd (tNot (tTru K (tCB (rIsi2 K a c d) (tCons (tV 7) (tCons (tTup (tCons (tC (.ref (He.ga K "NoParts"))) (tCons (tC (.ref (He.ga K "NoPlace"))) tNil))) tNil))))) (tTru K (tCB (rIsi2 K a c d) (tCons (tV 7) (tCons (tC (.ty "ValueError")) tNil)))))) (tAsg (tLst (tCons (fun σ H Q => tFld K (tV 7) "found" σ H Q ∨ tFldX K a c d (tV 7) "found" σ H Q) tNil)) (gName 6)) tNext)) (fun _ => E))
  (tRet (tOp (rEqU K) (tCB (rRepr K) (tCons (tV 6) tNil)) (tCB (rRepr K) (tCons (tLst (tCons (tV 4) tNil)) tNil))))))
/-! _law_all(_law_web_here, _law_parts, _law_rule, _law_cutting_here): 0 _law_web_here, 1 _law_parts, 2 _law_rule, 3 _law_cutting_here, 4 _law_found -/
def t_l_all (K : PySem.W.Frag) (E : XK) : TS :=
  (tSeq (tAsg (tLst (tCons (tCallSD (sp_cut_ties K) [] (fun _ => E) (tCons (tV 0) (tCons (tV 1) (tCons (tV 3) tNil)))) (tCons (tCallSD (sp_part_names K) [] (fun _ => E) (tCons (tV 0) (tCons (tV 1) (tCons (tV 3) tNil)))) (tCons (tCallSD (sp_between_parts K) [] (fun _ => E) (tCons (tV 0) (tCons (tV 1) (tCons (tV 3) tNil)))) tNil)))) (gName 4))
  (tRet (tOp (rAddU K) (tV 4) (tLst (tCons (tCallSD (sp_first_beyond K) [] (fun _ => E) (tCons (tV 0) (tCons (tV 2) (tCons (tV 3) tNil)))) (tCons (tCallSD (sp_numbered K) [] (fun _ => E) (tCons (tV 0) (tCons (tV 1) (tCons (tV 3) tNil)))) (tCons (tMethS (He.ga K "Web") "ties" (sp_Web_ties K) [] (fun _ => E) (tV 0) tNil) tNil)))))))
/-! law(_law_script): 0 _law_script, 1 _law_k, 2 _law_purse_here, 3 _law_parts, 4 _law_rule, 5 _law_ahead, 6 _law_bad, 7 _law_thing, 8 _law_web_here, 9 _law_names_here, 10 _law_weights, 11 _law_ties, 12 _law_cutting_here, 13 _law_told, 14 _law_door, 15 _law_turn -/
def t_law (K : PySem.W.Frag) (E : XK) : TS :=
  (tSeq (forS [(false, iRng1 (tCons (tCB (rMaxU K) (tCons (tC (.int 1)) (tCons (tCB (rMinU K) (tCons (tCB (rLenU K) (tCons (tV 0) tNil)) (tCons (tC (.int 10)) tNil))) tNil))) tNil))] (gName 1) (tSeq (tAsg (tCallSD (sp_l_purse K) [] (fun _ => E) (tCons (tCallSD (sp_l_cell K) [] (fun _ => E) (tCons (tV 0) (tCons (tV 1) tNil))) tNil)) (gName 2))
  (tSeq (tAsg (tCallSD (sp_l_web K) [] (fun _ => E) (tCons (tV 2) (tCons (tOp (rAddU K) (tC (.int 1)) (tCallSD (sp_l_take K) [] (fun _ => E) (tCons (tV 2) (tCons (tC (.int 8)) tNil)))) tNil))) (gTup K 4 (gCons (gName 8) (gCons (gName 9) (gCons (gName 10) (gCons (gName 11) gNil))))))
  (tSeq (tAsg (tOp (rAddU K) (tC (.int 2)) (tCallSD (sp_l_take K) [] (fun _ => E) (tCons (tV 2) (tCons (tC (.int 5)) tNil)))) (gName 3))
  (tSeq (tAsg (tCallSD (sp_l_cutting K) [] (fun _ => E) (tCons (tV 2) (tCons (tV 9) (tCons (tV 3) tNil)))) (gTup K 2 (gCons (gName 12) (gCons (gName 13) gNil))))
  (tSeq (tAsg (tMakeS (He.ga K "Rule") (sp_Rule_init K) [] (fun _ => E) (tCons (tV 3) (tCons (tC (.int 0)) (tCons (tOp (rAddU K) (tC (.int 1)) (tCallSD (sp_l_take K) [] (fun _ => E) (tCons (tV 2) (tCons (tC (.int 100)) tNil)))) tNil)))) (gName 4))
  (tSeq (tAsg (tCallSD (sp_l_all K) [] (fun _ => E) (tCons (tV 8) (tCons (tV 3) (tCons (tV 4) (tCons (tV 12) tNil))))) (gName 5))
  (tSeq (lcS [(false, iRng1 (tCons (tC (.int 3)) tNil))] (gName 15) tYes (tCallSD (sp_l_spoilt K) [] EZ (tCons (tV 2) (tCons (tV 9) (tCons (tV 12) (tCons (tV 3) tNil))))) [15] 6)
  (tSeq (forS (seqOr K false (tOp (rAddU K) (tV 6) (tLst (tCons (tC .non) (tCons (tC (.bl true)) (tCons (tC (.int 0)) (tCons (tC (.str "")) (tCons (tV 9) (tCons (tV 13) (tCons (tTup tNil) (tCons (fun σ H Q => tDNewK σ H Q ∨ tDNewT σ H Q) tNil))))))))))) (gName 7) (forS [(false, iRng1 (tCons (tC (.int 11)) tNil))] (gName 14) (uIf (tNot (tTru K (tCallSD (sp_l_refused K) [] (fun _ => E) (tCons (tV 8) (tCons (tV 3) (tCons (tV 4) (tCons (tV 12) (tCons (tV 7) (tCons (tV 14) tNil))))))))) (tRet (tC (.bl false))) tNext)))
  (uIf (tBo (tOp (rNeU K) (tCallSD (sp_l_all K) [] (fun _ => E) (tCons (tV 8) (tCons (tV 3) (tCons (tV 4) (tCons (tV 12) tNil))))) (tV 5))) (tRet (tC (.bl false))) tNext))))))))))
  (tRet (tC (.bl true))))
theorem pure_ex1 {K C fld s a b H Q} (h : P_ex1 K C fld a b H Q) : (tSeq (tDrop (tVeI K (tCons (tV 0) (tCons (tC (.str s)) tNil))))
  (tOst K fld (tV 0) (tV 1))) { nx := fun _ H' => Q .non H', rt := Q } [some a, some b] H := by
  obtain ⟨e, rfl, T, na, he, k⟩ := h
  refine ⟨e, C, [.str s], rfl, (by show 1 ≤ 1000; decide), T, he, ?_⟩
  refine ⟨e, C, rfl, T, na, .inl ⟨he, fun dx n1 n2 => ?_⟩⟩
  exact k dx _ n1 n2 rfl
theorem pure_ex2 {K C f1 f2 s a b c H Q} (h : P_ex2 K C f1 f2 a b c H Q) : (tSeq (tDrop (tVeI K (tCons (tV 0) (tCons (tC (.str s)) tNil))))
  (tSeq (tOst K f1 (tV 0) (tV 1)) (tOst K f2 (tV 0) (tV 2)))) { nx := fun _ H' => Q .non H', rt := Q } [some a, some b, some c] H := by
  obtain ⟨e, rfl, T, na, nb, he, k⟩ := h
  refine ⟨e, C, [.str s], rfl, (by show 1 ≤ 1000; decide), T, he, ?_⟩
  refine ⟨e, C, rfl, T, na, .inl ⟨he, fun dx n1 n2 => ?_⟩⟩
  refine ⟨e, C, rfl, T, nb, .inr ⟨dx, [(f1, b)], upd_same, ?_, (by show 1 ≤ 900; decide), ?_⟩⟩
  · rw [upd_ne n2, upd_same]
  · exact k dx _ n1 n2 rfl
/-- raise C(b): what the catcher sees -/
theorem raise1 {K : PySem.W.Frag} {C : Addr} {fld : Str} {b : V} {H : Hp} {sp : Sp} {E : XK} (hsp : ∀ a b H Q E, P_ex1 K C fld a b H Q → sp [a, b] H Q E) (T : OexC K C) (nA : NoAttr K C fld)
    (k : ∀ d H', H d = none → Same H H' → H' d = some (.xd [(fld, b)]) → E (.ref C) (some d) H') :
    [b].length ≤ 1000 ∧ ∀ a, H a = none → sp (.ref a :: ([b] ++ [])) (upd H a (exo a C none)) (fun v H2 => v = .non ∧ ∃ (d : Addr) (fs : List (Str × V)), H2 a = some (exo a C (some d)) ∧ H2 d = some (exd d fs) ∧ H d = none ∧ E (.ref C) (some d) (upd (del H2 a) d (.xd fs))) (fun _ _ _ => False) := by
  refine ⟨(by show 1 ≤ 1000; decide), fun a na => hsp _ _ _ _ _ ⟨a, rfl, T, nA, upd_same, fun dx H' n1 n2 e => ?_⟩⟩
  subst e
  rw [upd_ne n2] at n1
  refine ⟨rfl, dx, [(fld, b)], upd_same, by rw [upd_ne n2, upd_same], n1, k dx _ n1 (fun c o h => ?_) upd_same⟩
  have c1 : c ≠ dx := fun z => by rw [z, n1] at h; cases h
  have c2 : c ≠ a := fun z => by rw [z, na] at h; cases h
  rw [upd_ne c1, del_ne c2, upd_ne c2, upd_ne c1, upd_ne c2]
  exact h
/-- raise C(b, b2) -/
theorem raise2 {K : PySem.W.Frag} {C : Addr} {f g : Str} {b b2 : V} {H : Hp} {sp : Sp} {E : XK} (hsp : ∀ a b b2 H Q E, P_ex2 K C f g a b b2 H Q → sp [a, b, b2] H Q E) (T : OexC K C) (nA : NoAttr K C f) (nB : NoAttr K C g)
    (k : ∀ d H', H d = none → Same H H' → H' d = some (.xd [(g, b2), (f, b)]) → E (.ref C) (some d) H') :
    [b, b2].length ≤ 1000 ∧ ∀ a, H a = none → sp (.ref a :: ([b, b2] ++ [])) (upd H a (exo a C none)) (fun v H2 => v = .non ∧ ∃ (d : Addr) (fs : List (Str × V)), H2 a = some (exo a C (some d)) ∧ H2 d = some (exd d fs) ∧ H d = none ∧ E (.ref C) (some d) (upd (del H2 a) d (.xd fs))) (fun _ _ _ => False) := by
  refine ⟨(by show 2 ≤ 1000; decide), fun a na => hsp _ _ _ _ _ _ ⟨a, rfl, T, nA, nB, upd_same, fun dx H' n1 n2 e => ?_⟩⟩
  subst e
  rw [upd_ne n2] at n1
  refine ⟨rfl, dx, [(g, b2), (f, b)], by rw [upd_ne n2.symm, upd_same], upd_same, n1, k dx _ n1 (fun c o h => ?_) upd_same⟩
  have c1 : c ≠ dx := fun z => by rw [z, n1] at h; cases h
  have c2 : c ≠ a := fun z => by rw [z, na] at h; cases h
  rw [upd_ne c1, del_ne c2, upd_ne c1, upd_ne c2, upd_ne c1, upd_ne c2]
  exact h

theorem pure_NoCutting_init {K a b H Q E} (h : P_NoCutting_init K a b H Q E) : t_NoCutting_init K E { nx := fun _ H' => Q .non H', rt := Q } [some a, some b] H := pure_ex1 h

theorem rz1 {K : PySem.W.Frag} {c f : Str} {b : V} {H : Hp} {sp : Sp} {E : XK} (ek : EK K) (he : (c, [f]) ∈ errsL) (hsp : ∀ a b H Q E, P_ex1 K (He.ga K c) f a b H Q → sp [a, b] H Q E) (h : Rz K E H (c, [(f, b)])) :
    [b].length ≤ 1000 ∧ ∀ a, H a = none → sp (.ref a :: ([b] ++ [])) (upd H a (exo a (He.ga K c) none)) (fun v H2 => v = .non ∧ ∃ (d : Addr) (fs : List (Str × V)), H2 a = some (exo a (He.ga K c) (some d)) ∧ H2 d = some (exd d fs) ∧ H d = none ∧ E (.ref (He.ga K c)) (some d) (upd (del H2 a) d (.xd fs))) (fun _ _ _ => False) :=
  raise1 hsp (ek.oex _ he) (ek.na he (by simp)) fun d H' n s e => h d H' n s e
theorem Rz.mono {K E H H' r} (h : Rz K E H r) (s : Same H H') : Rz K E H' r := fun d H2 n s2 e => h d H2 (s.free n) (s.trans s2) e
/-- isinstance(e, t) of the caught refusal -/
theorem isX {K : PySem.W.Frag} {a dd : Addr} {c t : Str} {f : List Str} {fs : List (Str × V)} {b : Bool} {H : Hp} {Q : VK} (ek : EK K) (he : (c, f) ∈ errsL) (ht : t ∈ testsL) (hb : decide (c = t) = b) (hd : H dd = some (.xd fs)) (q : Q (.bl b) H) : rIsi2 K a (.ref (He.ga K c)) (some dd) [.ref a, .ref (He.ga K t)] H Q := by
  unfold rIsi2
  right
  unfold rIsX
  refine ⟨_, _, b, rfl, rfl, ek.isc _ he, ⟨fs, hd⟩, .inl ⟨_, fun u hu => hu, ?_⟩, q⟩
  rw [← hb]
  exact ek.kit _ he _ ht
theorem fdX {K : PySem.W.Frag} {a dd : Addr} {c n : Str} {f : List Str} {fs : List (Str × V)} {v : V} {H : Hp} {Q : VK} (ek : EK K) (he : (c, f) ∈ errsL) (hf : n ∈ f) (hd : H dd = some (.xd fs)) (l : fs.lookup n = some v) (q : Q v H) : rFdX K a (.ref (He.ga K c)) (some dd) n (.ref a) H Q := by
  unfold rFdX
  exact ⟨rfl, _, dd, fs, v, rfl, ek.fd _ he _ hf, rfl, hd, l, q⟩
theorem cvals_of {K : PySem.W.Frag} : ∀ ts : List Str, cvals (ts.map fun t => V.ref (He.ga K t)) (ts.map fun t => Value.ref (He.ga K t))
  | [] => trivial
  | _ :: ts => ⟨fun _ h => h, cvals_of ts⟩
theorem kitAny_of {K : PySem.W.Frag} {c : Str} {f : List Str} (ek : EK K) (he : (c, f) ∈ errsL) : ∀ ts : List Str, (∀ t ∈ ts, t ∈ testsL) → PySem.W.kitAny K (.ref (He.ga K c)) (ts.map fun t => Value.ref (He.ga K t)) = some (ts.any fun t => decide (c = t))
  | [], _ => rfl
  | t :: ts, h => by
    have ih := kitAny_of ek he ts fun u hu => h u (List.mem_cons_of_mem _ hu)
    have hk := ek.kit _ he _ (h t (List.mem_cons_self ..))
    rw [List.map_cons, List.any_cons]
    show (match PySem.W.kitOne K (.ref (He.ga K c)) (.ref (He.ga K t)) with | some true => some true | some false => PySem.W.kitAny K (.ref (He.ga K c)) (ts.map fun t => Value.ref (He.ga K t)) | none => none) = _
    replace hk : PySem.W.kitOne K (.ref (He.ga K c)) (.ref (He.ga K t)) = some (decide (c = t)) := hk
    rw [hk]
    cases decide (c = t)
    · exact ih
    · rfl
/-- isinstance(e, (t, u, ..)) of the caught refusal -/
theorem isXt {K : PySem.W.Frag} {a dd tp : Addr} {c : Str} {f : List Str} {fs : List (Str × V)} (ts : List Str) {b : Bool} {H : Hp} {Q : VK} (ek : EK K) (he : (c, f) ∈ errsL) (ht : ∀ t ∈ ts, t ∈ testsL) (hb : (ts.any fun t => decide (c = t)) = b) (htp : H tp = some (.tup (ts.map fun t => V.ref (He.ga K t)))) (hd : H dd = some (.xd fs)) (q : Q (.bl b) H) : rIsi2 K a (.ref (He.ga K c)) (some dd) [.ref a, .ref tp] H Q := by
  unfold rIsi2
  right
  unfold rIsX
  refine ⟨_, _, b, rfl, rfl, ek.isc _ he, ⟨fs, hd⟩, .inr ⟨tp, _, _, rfl, SqT.of htp, cvals_of ts, ?_⟩, q⟩
  rw [← hb]
  exact kitAny_of ek he ts ht

theorem pure_is_whole {K a b c H Q E} (h : P_is_whole K a b c H Q E) : t_is_whole K E { nx := fun _ H' => Q .non H', rt := Q } [some a, some b, some c] H := by
  obtain ⟨t, lo, hi, ht, rfl, rfl, q⟩ := h
  rcases ht.int_or with ⟨i, rfl, rfl⟩ | ⟨ni, h1⟩
  · refine isiN ht (b := true) (by decide +kernel) ?_
    ((try (conv => whnf)); repeat (first | (refine cndT rfl ?_; (try (conv => whnf))) | (refine cndF rfl ?_; (try (conv => whnf)))))
    refine isiN ht (b := false) (by decide +kernel) ?_
    ((try (conv => whnf)); repeat (first | (refine cndT rfl ?_; (try (conv => whnf))) | (refine cndF rfl ?_; (try (conv => whnf)))))
    refine cndD (fun h => ?_) (fun h => ?_)
    · have e : wholeV (.int i) lo hi = decide (i ≤ hi) := by simp [wholeV, h]
      rw [e] at q
      ((try (conv => whnf)); repeat (first | (refine cndT rfl ?_; (try (conv => whnf))) | (refine cndF rfl ?_; (try (conv => whnf)))))
      exact q
    · have e : wholeV (.int i) lo hi = false := by simp [wholeV, h]
      rw [e] at q
      exact q
  · have e : wholeV a lo hi = false := by
      unfold wholeV
      split
      · exact absurd rfl (ni _)
      · rfl
    rw [e] at q
    rcases h1 with h1 | ⟨h1, h2⟩
    · refine isiN ht h1 ?_
      ((try (conv => whnf)); repeat (first | (refine cndT rfl ?_; (try (conv => whnf))) | (refine cndF rfl ?_; (try (conv => whnf)))))
      exact q
    · refine isiN ht h1 ?_
      ((try (conv => whnf)); repeat (first | (refine cndT rfl ?_; (try (conv => whnf))) | (refine cndF rfl ?_; (try (conv => whnf)))))
      refine isiN ht h2 ?_
      ((try (conv => whnf)); repeat (first | (refine cndT rfl ?_; (try (conv => whnf))) | (refine cndF rfl ?_; (try (conv => whnf)))))
      exact q
theorem alpha (c : Nat) : c ∈ (Str.ofString "abcdefghijklmnopqrstuvwxyz").cps.toList ↔ (97 ≤ c ∧ c ≤ 122) := by
  have e : (Str.ofString "abcdefghijklmnopqrstuvwxyz").cps.toList = List.range' 97 26 := by decide +kernel
  rw [e, List.mem_range'_1]
  omega
theorem nameS_bad {z : Str} (h : ¬ ((1 : Int) ≤ (z.length : Nat)) ∨ ¬ ((z.length : Nat) : Int) ≤ 8) : nameS z = false := by
  unfold nameS
  rcases h with h | h
  · rw [decide_eq_false (by omega)]; rfl
  · rw [decide_eq_false (p := z.length ≤ 8) (by omega)]; simp
theorem nameS_ok {z : Str} (h : (1 : Int) ≤ (z.length : Nat)) (h2 : ((z.length : Nat) : Int) ≤ 8) : (z.cps.toList.map fun c => decide (97 ≤ c) && decide (c ≤ 122)).all id = nameS z := by
  unfold nameS
  rw [decide_eq_true (by omega), decide_eq_true (p := z.length ≤ 8) (by omega), List.all_map]
  rfl
theorem pure_is_name {K a H Q E} (h : P_is_name K a H Q E) : t_is_name K E { nx := fun _ H' => Q .non H', rt := Q } [some a, none] H := by
  obtain ⟨t, ht, hl, q⟩ := h
  rcases ht.str_or with ⟨z, rfl, rfl⟩ | ⟨nz, h1⟩
  · have hz := hl z rfl
    have hz2 : z.length ≤ sizeLine := by rw [sizeLine_eq]; omega
    refine isiN ht (b := true) (by decide +kernel) ?_
    ((try (conv => whnf)); repeat (first | (refine cndT rfl ?_; (try (conv => whnf))) | (refine cndF rfl ?_; (try (conv => whnf)))))
    refine ⟨hz2, ?_⟩
    ((try (conv => whnf)); repeat (first | (refine cndT rfl ?_; (try (conv => whnf))) | (refine cndF rfl ?_; (try (conv => whnf)))))
    (refine cndB (fun c1 => ?_) (fun c1 => ?_) <;> (try simp only [Bool.not_eq_eq_eq_not, Bool.not_true, Bool.not_false, decide_eq_true_eq, decide_eq_false_iff_not, Int.not_le, Int.not_lt] at c1) <;> ((try (conv => whnf)); repeat (first | (refine cndT rfl ?_; (try (conv => whnf))) | (refine cndF rfl ?_; (try (conv => whnf))))))
    · (refine cndB (fun c2 => ?_) (fun c2 => ?_) <;> (try simp only [Bool.not_eq_eq_eq_not, Bool.not_true, Bool.not_false, decide_eq_true_eq, decide_eq_false_iff_not, Int.not_le, Int.not_lt] at c2) <;> ((try (conv => whnf)); repeat (first | (refine cndT rfl ?_; (try (conv => whnf))) | (refine cndF rfl ?_; (try (conv => whnf))))))
      · have q2 := q H (Same.refl _)
        rw [show nameV (.str z) = false from nameS_bad (.inr (by omega))] at q2
        exact q2
      · left
        ((try (conv => whnf)); repeat (first | (refine cndT rfl ?_; (try (conv => whnf))) | (refine cndF rfl ?_; (try (conv => whnf)))))
        refine lcStr (fun c => .bl (decide (97 ≤ c) && decide (c ≤ 122))) hz (fun c H' s R k => ⟨rfl, ?_⟩) (fun D H' hD s => ?_)
        · have k := k H' (Same.refl _)
          have e : (decide (97 ≤ c) && decide (c ≤ 122)) = (!(Builtin.Str.occurrences (Str.ofString "abcdefghijklmnopqrstuvwxyz") ⟨#[c]⟩ 0 (Str.ofString "abcdefghijklmnopqrstuvwxyz").length 1).isEmpty) := by
            rw [PySem.StrLaws.found_one]
            by_cases e : 97 ≤ c ∧ c ≤ 122
            · rw [decide_eq_true ((alpha c).mpr e), decide_eq_true e.1, decide_eq_true e.2]; rfl
            · rw [decide_eq_false (fun z => e ((alpha c).mp z))]
              by_cases e1 : 97 ≤ c
              · rw [decide_eq_false (p := c ≤ 122) (fun z => e ⟨e1, z⟩)]; simp
              · rw [decide_eq_false e1]; rfl
          rw [e] at k
          exact k
        · have q2 := q H' s
          rw [show nameV (.str z) = nameS z from rfl, ← nameS_ok (by omega) (by omega)] at q2
          refine ⟨D, z.cps.toList.map (fun c => decide (97 ≤ c) && decide (c ≤ 122)), rfl, SqL.of ?_, q2⟩
          rw [hD, List.map_map]
          rfl
    · have q2 := q H (Same.refl _)
      rw [show nameV (.str z) = false from nameS_bad (.inl (by omega))] at q2
      exact q2
  · have e : nameV a = false := by
      unfold nameV
      split
      · exact absurd rfl (nz _)
      · rfl
    refine isiN ht h1 ?_
    have q2 := q H (Same.refl _)
    rw [e] at q2
    ((try (conv => whnf)); repeat (first | (refine cndT rfl ?_; (try (conv => whnf))) | (refine cndF rfl ?_; (try (conv => whnf)))))
    exact q2

section
variable {α κ : Type} [DecidableEq α] [DecidableEq κ]
theorem emb_vals (f : α → κ) (l : List (α × Int)) : (emb f l).map (·.2) = (l.map Prod.snd).map V.int := by
  unfold emb
  rw [List.map_map, List.map_map]
  rfl
theorem emb_len (f : α → κ) (l : List (α × Int)) : (emb f l).length = l.length := List.length_map _
end
theorem WebO.same {K H H' a p q W} (h : WebO K H a p q W) (s : Same H H') : WebO K H' a p q W := ⟨h.k, let ⟨dx, e⟩ := h.o; ⟨dx, s _ _ e⟩, s _ _ h.hv, s _ _ h.kn⟩
theorem webF_h {p q : Addr} : (webF p q).lookup ("heavy" : Str) = some (.ref p) := by
  unfold webF
  rw [List.lookup_cons, beq_self_eq_true]
theorem webF_k {p q : Addr} : (webF p q).lookup ("knots" : Str) = some (.ref q) := by
  unfold webF
  rw [List.lookup_cons, show ((("knots" : Str)) == ("heavy" : Str)) = false by decide +kernel, List.lookup_cons, beq_self_eq_true]
theorem webF_n {p q : Addr} {m : Str} (h1 : (m == ("heavy" : Str)) = false) (h2 : (m == ("knots" : Str)) = false) : (webF p q).lookup m = none := by
  unfold webF
  rw [List.lookup_cons, h1, List.lookup_cons, h2]
  rfl
theorem pure_Web_total {K a H Q E} (h : P_Web_total K a H Q E) : t_Web_total K E { nx := fun _ H' => Q .non H', rt := Q } [some a, none] H := by
  obtain ⟨x, p, q, W, rfl, hw, hn, k⟩ := h
  obtain ⟨dx, ho⟩ := hw.o
  ((try (conv => whnf)); repeat (first | (refine cndT rfl ?_; (try (conv => whnf))) | (refine cndF rfl ?_; (try (conv => whnf)))))
  refine ⟨p, _, hw.hv, trivial, fun od => ?_⟩
  (generalize hG : _root_.L2.upd _ p _ = HL; have b0 := butOf hG; have e0 := atOf hG; clear hG; ((try (conv => whnf)); repeat (first | (refine cndT rfl ?_; (try (conv => whnf))) | (refine cndF rfl ?_; (try (conv => whnf))))))
  refine ⟨x, _, dx, _, _, rfl, b0.at ho (fun e => by rw [e, hw.hv] at ho; cases ho), hw.k.cls, hw.k.nh, webF_h, ?_⟩
  ((try (conv => whnf)); repeat (first | (refine cndT rfl ?_; (try (conv => whnf))) | (refine cndF rfl ?_; (try (conv => whnf)))))
  refine ⟨p, od, rfl, .inl ⟨_, e0, ?_⟩⟩
  refine lcVals ?_ e0 (by rw [emb_len, sizeLine_eq]; omega) fun D H' hD s => ⟨s _ _ e0, ?_⟩
  · show 1 < 2; decide
  generalize hG : L2.upd _ p _ = G
  have s2 : Same H G := unlock hw.hv b0 s hG
  ((try (conv => whnf)); repeat (first | (refine cndT rfl ?_; (try (conv => whnf))) | (refine cndF rfl ?_; (try (conv => whnf)))))
  have hne : D ≠ p := fun e => by rw [e, s _ _ e0] at hD; cases hD
  refine ⟨D, W.hv.map Prod.snd, rfl, SqL.of ?_, k G s2⟩
  rw [← hG, upd_ne hne, hD, emb_vals]
theorem pure_Web_force {K a H Q E} (h : P_Web_force K a H Q E) : t_Web_force K E { nx := fun _ H' => Q .non H', rt := Q } [some a, none] H := by
  obtain ⟨x, p, q, W, rfl, hw, hn, k⟩ := h
  obtain ⟨dx, ho⟩ := hw.o
  ((try (conv => whnf)); repeat (first | (refine cndT rfl ?_; (try (conv => whnf))) | (refine cndF rfl ?_; (try (conv => whnf)))))
  refine ⟨q, _, hw.kn, trivial, fun od => ?_⟩
  (generalize hG : _root_.L2.upd _ q _ = HL; have b0 := butOf hG; have e0 := atOf hG; clear hG; ((try (conv => whnf)); repeat (first | (refine cndT rfl ?_; (try (conv => whnf))) | (refine cndF rfl ?_; (try (conv => whnf))))))
  refine ⟨x, _, dx, _, _, rfl, b0.at ho (fun e => by rw [e, hw.kn] at ho; cases ho), hw.k.cls, hw.k.nk, webF_k, ?_⟩
  ((try (conv => whnf)); repeat (first | (refine cndT rfl ?_; (try (conv => whnf))) | (refine cndF rfl ?_; (try (conv => whnf)))))
  refine ⟨q, od, rfl, .inr ⟨_, e0, ?_⟩⟩
  refine lcValsT ?_ e0 (by rw [emb_len, sizeLine_eq]; omega) fun D H' hD s => ⟨s _ _ e0, ?_⟩
  · show 1 < 2; decide
  generalize hG : L2.upd _ q _ = G
  have s2 : Same H G := unlock hw.kn b0 s hG
  ((try (conv => whnf)); repeat (first | (refine cndT rfl ?_; (try (conv => whnf))) | (refine cndF rfl ?_; (try (conv => whnf)))))
  have hne : D ≠ q := fun e => by rw [e, s _ _ e0] at hD; cases hD
  refine ⟨D, W.kn.map Prod.snd, rfl, SqL.of ?_, k G s2⟩
  rw [← hG, upd_ne hne, hD, emb_vals]
section
variable {α κ : Type} [DecidableEq α] [DecidableEq κ]
theorem emb_val {f : α → κ} (hf : ∀ a b, f a = f b → a = b) (l : List (α × Int)) (k : α) : valV (emb f l) (f k) = (getA l k).map V.int := by
  induction l with
  | nil => rfl
  | cons p l ih =>
    show valV ((f p.1, V.int p.2) :: emb f l) (f k) = _
    by_cases e : p.1 = k
    · rw [valV_pos (by show f p.1 = f k; rw [e])]
      unfold getA
      rw [List.find?_cons, decide_eq_true e]
      rfl
    · rw [valV_neg (by show ¬ f p.1 = f k; exact fun z => e (hf _ _ z)), ih]
      unfold getA
      rw [List.find?_cons, decide_eq_false e]
theorem emb_any {f : α → κ} (hf : ∀ a b, f a = f b → a = b) (l : List (α × Int)) (k : α) : ((emb f l).any fun kv => decide (kv.1 = f k)) = l.any fun p => decide (p.1 = k) := by
  unfold emb
  rw [List.any_map]
  congr 1
  funext p
  exact decide_eq_decide.mpr ⟨fun z => hf _ _ z, fun z => congrArg f z⟩
theorem emb_put {f : α → κ} (hf : ∀ a b, f a = f b → a = b) (l : List (α × Int)) (k : α) (v : Int) : putK (emb f l) (f k) (.int v) = emb f (putA l k v) := by
  unfold putK putA
  rw [emb_any hf]
  cases h : l.any fun p => decide (p.1 = k) with
  | true =>
    rw [if_pos rfl, if_pos rfl]
    unfold emb
    rw [List.map_map, List.map_map]
    refine List.map_congr_left fun p _ => ?_
    show (if f p.1 = f k then (f p.1, V.int v) else (f p.1, V.int p.2)) = _
    show _ = (f (if p.1 = k then (p.1, v) else p).1, V.int (if p.1 = k then (p.1, v) else p).2)
    by_cases e : p.1 = k
    · rw [if_pos e, if_pos (by rw [e])]
    · rw [if_neg e, if_neg fun z => e (hf _ _ z)]
  | false =>
    rw [if_neg (by simp), if_neg (by simp)]
    unfold emb
    rw [List.map_append]
    rfl
theorem emb_drop {f : α → κ} (hf : ∀ a b, f a = f b → a = b) (l : List (α × Int)) (k : α) : dropK (emb f l) (f k) = emb f (dropA l k) := by
  unfold dropK dropA emb
  rw [List.filter_map]
  congr 1
  refine List.filter_congr fun p _ => ?_
  show decide (f p.1 ≠ f k) = decide (p.1 ≠ k)
  exact decide_eq_decide.mpr ⟨fun z e => z (by rw [e]), fun z e => z (hf _ _ e)⟩
end
theorem kS_inj : ∀ a b, kS a = kS b → a = b := fun _ _ h => Sum.inr.inj h
theorem kP_inj : ∀ a b, kP a = kP b → a = b := fun a b h => by
  unfold kP at h
  simp at h
  exact Prod.ext h.1 h.2
theorem Rd.same {H H' : Hp} {a : Addr} {u : HO} (h : Rd H a u) (s : Same H H') : Rd H' a u := h.elim (fun e => .inl (s _ _ e)) fun ⟨o, e⟩ => .inr ⟨o, s _ _ e⟩
theorem WebR.same {K H H' a p q W} (h : WebR K H a p q W) (s : Same H H') : WebR K H' a p q W := ⟨h.k, let ⟨dx, e⟩ := h.o; ⟨dx, s _ _ e⟩, Rd.same h.hv s, Rd.same h.kn s⟩
theorem WebR.hget {K H a p q W} (h : WebR K H a p q W) (n : Str) : DGet H p (.str n) ((getA W.hv n).map V.int) := by
  rw [← emb_val kS_inj]
  exact .inl ⟨_, kS n, h.hv, rfl, rfl⟩
theorem WebR.kget {K H a p q W} (h : WebR K H a p q W) {b : Addr} {n m : Str} (eb : H b = some (.tup [.str n, .str m])) : DGet H q (.ref b) ((getA W.kn (n, m)).map V.int) := by
  rw [← emb_val kP_inj]
  exact .inr ⟨_, kP (n, m), b, h.kn, rfl, eb, rfl⟩
theorem WebO.hget {K H a p q W} (h : WebO K H a p q W) (n : Str) : DGet H p (.str n) ((getA W.hv n).map V.int) := h.r.hget n
theorem WebO.kget {K H a p q W} (h : WebO K H a p q W) {b : Addr} {n m : Str} (eb : H b = some (.tup [.str n, .str m])) : DGet H q (.ref b) ((getA W.kn (n, m)).map V.int) := h.r.kget eb
theorem some_int {o : Option Int} : (o.map V.int).isSome = o.isSome := by cases o <;> rfl
theorem knotW_some {W : WebS} {n m u v : Str} (e : knotW W n m = some (u, v)) : ∃ w, getA W.kn (u, v) = some w := by
  unfold knotW at e
  split at e
  · rename_i h
    cases e
    exact Option.isSome_iff_exists.mp h
  · split at e
    · rename_i h
      cases e
      exact Option.isSome_iff_exists.mp h
    · cases e
theorem pure_Web_need_place {K a b H Q E} (h : P_Web_need_place K a b H Q E) : t_Web_need_place K E { nx := fun _ H' => Q .non H', rt := Q } [some a, some b] H := by
  obtain ⟨x, p, q, W, n, rfl, hw, rfl, hn, k⟩ := h
  obtain ⟨dx, ho⟩ := hw.o
  refine isiN (t := "str") (b := true) rfl (by decide +kernel) ?_
  ((try (conv => whnf)); repeat (first | (refine cndT rfl ?_; (try (conv => whnf))) | (refine cndF rfl ?_; (try (conv => whnf)))))
  refine ⟨x, _, dx, _, _, rfl, ho, hw.k.cls, hw.k.nh, webF_h, ?_⟩
  ((try (conv => whnf)); repeat (first | (refine cndT rfl ?_; (try (conv => whnf))) | (refine cndF rfl ?_; (try (conv => whnf)))))
  refine .inr (.inl ⟨p, _, rfl, hw.hget n, ?_⟩)
  rw [some_int, show (getA W.hv n).isSome = true from hn]
  ((try (conv => whnf)); repeat (first | (refine cndT rfl ?_; (try (conv => whnf))) | (refine cndF rfl ?_; (try (conv => whnf)))))
  exact k
theorem pure_Web_need_two {K a b c H Q E} (h : P_Web_need_two K a b c H Q E) : t_Web_need_two K E { nx := fun _ H' => Q .non H', rt := Q } [some a, some b, some c] H := by
  obtain ⟨x, p, q, W, n, m, rfl, hw, rfl, rfl, hn, hm, ne, k⟩ := h
  obtain ⟨dx, ho⟩ := hw.o
  ((try (conv => whnf)); repeat (first | (refine cndT rfl ?_; (try (conv => whnf))) | (refine cndF rfl ?_; (try (conv => whnf)))))
  refine ⟨x, dx, _, rfl, ho, webF_n (by decide +kernel) (by decide +kernel), ?_⟩
  ((try (conv => whnf)); repeat (first | (refine cndT rfl ?_; (try (conv => whnf))) | (refine cndF rfl ?_; (try (conv => whnf)))))
  refine ⟨x, p, q, W, n, rfl, hw, rfl, hn, ?_⟩
  ((try (conv => whnf)); repeat (first | (refine cndT rfl ?_; (try (conv => whnf))) | (refine cndF rfl ?_; (try (conv => whnf)))))
  refine ⟨x, dx, _, rfl, ho, webF_n (by decide +kernel) (by decide +kernel), ?_⟩
  ((try (conv => whnf)); repeat (first | (refine cndT rfl ?_; (try (conv => whnf))) | (refine cndF rfl ?_; (try (conv => whnf)))))
  refine ⟨x, p, q, W, m, rfl, hw, rfl, hm, ?_⟩
  ((try (conv => whnf)); repeat (first | (refine cndT rfl ?_; (try (conv => whnf))) | (refine cndF rfl ?_; (try (conv => whnf)))))
  (refine cndB (fun c1 => ?_) (fun c1 => ?_) <;> (try simp only [Bool.not_eq_eq_eq_not, Bool.not_true, Bool.not_false, decide_eq_true_eq, decide_eq_false_iff_not, Int.not_le, Int.not_lt] at c1) <;> ((try (conv => whnf)); repeat (first | (refine cndT rfl ?_; (try (conv => whnf))) | (refine cndF rfl ?_; (try (conv => whnf))))))
  · exact absurd c1 ne
  · exact k
theorem pure_Web_knot {K a b c H Q E} (h : P_Web_knot K a b c H Q E) : t_Web_knot K E { nx := fun _ H' => Q .non H', rt := Q } [some a, some b, some c] H := by
  obtain ⟨x, p, q, W, n, m, rfl, hw, rfl, rfl, k1, k2⟩ := h
  obtain ⟨dx, ho⟩ := hw.o
  ((try (conv => whnf)); repeat (first | (refine cndT rfl ?_; (try (conv => whnf))) | (refine cndF rfl ?_; (try (conv => whnf)))))
  refine ⟨by show 2 ≤ sizeLine; decide, ?_⟩
  (intro l1 n1; generalize hG : _root_.L2.upd _ l1 _ = G1; have s1 := sameOf n1 hG; have e1 := atOf hG; clear hG; ((try (conv => whnf)); repeat (first | (refine cndT rfl ?_; (try (conv => whnf))) | (refine cndF rfl ?_; (try (conv => whnf))))))
  have hw1 := hw.same s1
  refine ⟨x, _, dx, _, _, rfl, s1 _ _ ho, hw.k.cls, hw.k.nk, webF_k, ?_⟩
  ((try (conv => whnf)); repeat (first | (refine cndT rfl ?_; (try (conv => whnf))) | (refine cndF rfl ?_; (try (conv => whnf)))))
  refine .inr (.inl ⟨q, _, rfl, hw1.kget e1, ?_⟩)
  rw [some_int]
  cases c1 : (getA W.kn (n, m)).isSome with
  | true =>
    ((try (conv => whnf)); repeat (first | (refine cndT rfl ?_; (try (conv => whnf))) | (refine cndF rfl ?_; (try (conv => whnf)))))
    refine ⟨by show 2 ≤ sizeLine; decide, ?_⟩
    (intro l2 n2; generalize hG : _root_.L2.upd _ l2 _ = G2; have s2 := sameOf n2 hG; have e2 := atOf hG; clear hG; ((try (conv => whnf)); repeat (first | (refine cndT rfl ?_; (try (conv => whnf))) | (refine cndF rfl ?_; (try (conv => whnf))))))
    exact k1 l2 n m G2 (by unfold knotW; rw [c1]; rfl) (s1.trans s2) e2
  | false =>
    ((try (conv => whnf)); repeat (first | (refine cndT rfl ?_; (try (conv => whnf))) | (refine cndF rfl ?_; (try (conv => whnf)))))
    refine ⟨by show 2 ≤ sizeLine; decide, ?_⟩
    (intro l2 n2; generalize hG : _root_.L2.upd _ l2 _ = G2; have s2 := sameOf n2 hG; have e2 := atOf hG; clear hG; ((try (conv => whnf)); repeat (first | (refine cndT rfl ?_; (try (conv => whnf))) | (refine cndF rfl ?_; (try (conv => whnf))))))
    have hw2 := hw1.same s2
    refine ⟨x, _, dx, _, _, rfl, s2 _ _ (s1 _ _ ho), hw.k.cls, hw.k.nk, webF_k, ?_⟩
    ((try (conv => whnf)); repeat (first | (refine cndT rfl ?_; (try (conv => whnf))) | (refine cndF rfl ?_; (try (conv => whnf)))))
    refine .inr (.inl ⟨q, _, rfl, hw2.kget e2, ?_⟩)
    rw [some_int]
    cases c2 : (getA W.kn (m, n)).isSome with
    | true =>
      ((try (conv => whnf)); repeat (first | (refine cndT rfl ?_; (try (conv => whnf))) | (refine cndF rfl ?_; (try (conv => whnf)))))
      refine ⟨by show 2 ≤ sizeLine; decide, ?_⟩
      (intro l3 n3; generalize hG : _root_.L2.upd _ l3 _ = G3; have s3 := sameOf n3 hG; have e3 := atOf hG; clear hG; ((try (conv => whnf)); repeat (first | (refine cndT rfl ?_; (try (conv => whnf))) | (refine cndF rfl ?_; (try (conv => whnf))))))
      exact k1 l3 m n G3 (by unfold knotW; rw [c1, c2]; rfl) ((s1.trans s2).trans s3) e3
    | false =>
      ((try (conv => whnf)); repeat (first | (refine cndT rfl ?_; (try (conv => whnf))) | (refine cndF rfl ?_; (try (conv => whnf)))))
      exact k2 G2 (by unfold knotW; rw [c1, c2]; rfl) (s1.trans s2)
theorem pure_Web_need_tie {K a b c H Q E} (h : P_Web_need_tie K a b c H Q E) : t_Web_need_tie K E { nx := fun _ H' => Q .non H', rt := Q } [some a, some b, some c, none] H := by
  obtain ⟨x, p, q, W, n, m, u, v, rfl, hw, rfl, rfl, hn, hm, ne, hk, k⟩ := h
  obtain ⟨dx, ho⟩ := hw.o
  ((try (conv => whnf)); repeat (first | (refine cndT rfl ?_; (try (conv => whnf))) | (refine cndF rfl ?_; (try (conv => whnf)))))
  refine ⟨x, dx, _, rfl, ho, webF_n (by decide +kernel) (by decide +kernel), ?_⟩
  ((try (conv => whnf)); repeat (first | (refine cndT rfl ?_; (try (conv => whnf))) | (refine cndF rfl ?_; (try (conv => whnf)))))
  refine ⟨x, p, q, W, n, m, rfl, hw, rfl, rfl, hn, hm, ne, ?_⟩
  ((try (conv => whnf)); repeat (first | (refine cndT rfl ?_; (try (conv => whnf))) | (refine cndF rfl ?_; (try (conv => whnf)))))
  refine ⟨x, dx, _, rfl, ho, webF_n (by decide +kernel) (by decide +kernel), ?_⟩
  ((try (conv => whnf)); repeat (first | (refine cndT rfl ?_; (try (conv => whnf))) | (refine cndF rfl ?_; (try (conv => whnf)))))
  refine ⟨x, p, q, W, n, m, rfl, hw, rfl, rfl, fun T u' v' H' e s eT => ?_, fun H' e s => by rw [hk] at e; cases e⟩
  rw [hk] at e
  cases e
  ((try (conv => whnf)); repeat (first | (refine cndT rfl ?_; (try (conv => whnf))) | (refine cndF rfl ?_; (try (conv => whnf)))))
  refine ⟨rfl, ?_⟩
  ((try (conv => whnf)); repeat (first | (refine cndT rfl ?_; (try (conv => whnf))) | (refine cndF rfl ?_; (try (conv => whnf)))))
  exact k T H' s eT
theorem pure_Web_need_weight {K a b H Q E} (h : P_Web_need_weight K a b H Q E) : t_Web_need_weight K E { nx := fun _ H' => Q .non H', rt := Q } [some a, some b] H := by
  obtain ⟨w, rfl, h1, h2, k⟩ := h
  ((try (conv => whnf)); repeat (first | (refine cndT rfl ?_; (try (conv => whnf))) | (refine cndF rfl ?_; (try (conv => whnf)))))
  refine ⟨"int", 1, 1000000000, rfl, rfl, rfl, ?_⟩
  rw [show wholeV (.int w) 1 1000000000 = true by simp [wholeV, h1, h2]]
  ((try (conv => whnf)); repeat (first | (refine cndT rfl ?_; (try (conv => whnf))) | (refine cndF rfl ?_; (try (conv => whnf)))))
  exact k
theorem nameS_len {z : Str} (h : nameS z = true) : z.length ≤ 8 := by
  unfold nameS at h
  simp only [Bool.and_eq_true, decide_eq_true_eq] at h
  exact h.1.2
theorem setD {x y v : V} {a : Addr} {H H4 : Hp} {Q : Hp → Prop} (e : x = .ref a) (h : DPut H a y v H4) (q : Q H4) : rSetU x y v H Q := by
  unfold rSetU
  exact .inr (.inl ⟨a, H4, e, h, q⟩)
theorem ixD {K : PySem.W.Frag} {y v : V} {a : Addr} {H : Hp} {Q : VK} (h : DGet H a y (some v)) (q : Q v H) : rIxU K (.ref a) y H Q := by
  unfold rIxU
  exact .inr ⟨a, v, rfl, h, q⟩
theorem getD {K : PySem.W.Frag} {y v : V} {a : Addr} {H : Hp} {Q : VK} (h : DGet H a y (some v)) (q : Q v H) : rGetU K (.ref a) y H Q := by
  unfold rGetU
  exact .inr ⟨a, v, rfl, h, q⟩
theorem Kx.refl {S : List Addr} {H : Hp} : Kx S H H := fun _ _ _ h => h
theorem Kx.same {S : List Addr} {H H' : Hp} (s : Same H H') : Kx S H H' := fun b o _ h => s b o h
theorem Kx.trans {S : List Addr} {H H1 H2 : Hp} (a : Kx S H H1) (b : Kx S H1 H2) : Kx S H H2 := fun c o n h => b c o n (a c o n h)
theorem Kx.but {p : Addr} {S : List Addr} {H H' : Hp} (b : But p H H') (h : p ∈ S) : Kx S H H' := fun c o n e => (b c (fun z => n (z ▸ h))).trans e
theorem pure_Web_put {K a b c H Q E} (h : P_Web_put K a b c H Q E) : t_Web_put K E { nx := fun _ H' => Q .non H', rt := Q } [some a, some b, some c] H := by
  obtain ⟨x, p, q, W, n, w, rfl, hw, rfl, rfl, hn, w1, w2, hg, hl, ht, k⟩ := h
  obtain ⟨dx, ho⟩ := hw.o
  have nl := nameS_len hn
  ((try (conv => whnf)); repeat (first | (refine cndT rfl ?_; (try (conv => whnf))) | (refine cndF rfl ?_; (try (conv => whnf)))))
  refine ⟨"str", rfl, fun z e => by cases e; omega, fun H1 s1 => ?_⟩
  rw [show nameV (.str n) = true from hn]
  ((try (conv => whnf)); repeat (first | (refine cndT rfl ?_; (try (conv => whnf))) | (refine cndF rfl ?_; (try (conv => whnf)))))
  refine ⟨x, dx, _, rfl, s1 _ _ ho, webF_n (by decide +kernel) (by decide +kernel), ?_⟩
  ((try (conv => whnf)); repeat (first | (refine cndT rfl ?_; (try (conv => whnf))) | (refine cndF rfl ?_; (try (conv => whnf)))))
  refine ⟨w, rfl, w1, w2, ?_⟩
  ((try (conv => whnf)); repeat (first | (refine cndT rfl ?_; (try (conv => whnf))) | (refine cndF rfl ?_; (try (conv => whnf)))))
  refine ⟨x, _, dx, _, _, rfl, s1 _ _ ho, hw.k.cls, hw.k.nh, webF_h, ?_⟩
  ((try (conv => whnf)); repeat (first | (refine cndT rfl ?_; (try (conv => whnf))) | (refine cndF rfl ?_; (try (conv => whnf)))))
  have hw1 := hw.same s1
  refine .inr (.inl ⟨p, _, rfl, hw1.hget n, ?_⟩)
  rw [some_int, hg]
  ((try (conv => whnf)); repeat (first | (refine cndT rfl ?_; (try (conv => whnf))) | (refine cndF rfl ?_; (try (conv => whnf)))))
  refine ⟨x, _, dx, _, _, rfl, s1 _ _ ho, hw.k.cls, hw.k.nh, webF_h, ?_⟩
  ((try (conv => whnf)); repeat (first | (refine cndT rfl ?_; (try (conv => whnf))) | (refine cndF rfl ?_; (try (conv => whnf)))))
  refine .inr (.inr (.inl ⟨_, hw1.hv, ?_⟩))
  rw [emb_len]
  ((try (conv => whnf)); repeat (first | (refine cndT rfl ?_; (try (conv => whnf))) | (refine cndF rfl ?_; (try (conv => whnf)))))
  refine cndF (decide_eq_false (by omega)) ?_
  ((try (conv => whnf)); repeat (first | (refine cndT rfl ?_; (try (conv => whnf))) | (refine cndF rfl ?_; (try (conv => whnf)))))
  refine ⟨x, dx, _, rfl, s1 _ _ ho, webF_n (by decide +kernel) (by decide +kernel), ?_⟩
  ((try (conv => whnf)); repeat (first | (refine cndT rfl ?_; (try (conv => whnf))) | (refine cndF rfl ?_; (try (conv => whnf)))))
  refine ⟨x, p, q, W, rfl, hw1, by omega, fun H2 s2 => ?_⟩
  have hw2 := hw1.same s2
  have ho2 := s2 _ _ (s1 _ _ ho)
  ((try (conv => whnf)); repeat (first | (refine cndT rfl ?_; (try (conv => whnf))) | (refine cndF rfl ?_; (try (conv => whnf)))))
  refine cndF (decide_eq_false (by omega)) ?_
  ((try (conv => whnf)); repeat (first | (refine cndT rfl ?_; (try (conv => whnf))) | (refine cndF rfl ?_; (try (conv => whnf)))))
  refine ⟨x, _, dx, _, _, rfl, ho2, hw.k.cls, hw.k.nh, webF_h, ?_⟩
  ((try (conv => whnf)); repeat (first | (refine cndT rfl ?_; (try (conv => whnf))) | (refine cndF rfl ?_; (try (conv => whnf)))))
  refine setD rfl (DPut.k (k := kS n) hw2.hv (by rw [emb_len, sizeLine_eq]; omega)) ?_
  (generalize hG : _root_.L2.upd _ p _ = H3; have b3 := butOf hG; have e3 := atOf hG; clear hG; ((try (conv => whnf)); repeat (first | (refine cndT rfl ?_; (try (conv => whnf))) | (refine cndF rfl ?_; (try (conv => whnf))))))
  rw [emb_put kS_inj] at e3
  exact k H3 ((Kx.same (s1.trans s2)).trans (.but b3 (by simp))) e3
theorem pure_Web_weigh {K a b c H Q E} (h : P_Web_weigh K a b c H Q E) : t_Web_weigh K E { nx := fun _ H' => Q .non H', rt := Q } [some a, some b, some c, none] H := by
  obtain ⟨x, p, q, W, n, w, w0, rfl, hw, rfl, rfl, w1, w2, hg, hl, ht, k⟩ := h
  obtain ⟨dx, ho⟩ := hw.o
  ((try (conv => whnf)); repeat (first | (refine cndT rfl ?_; (try (conv => whnf))) | (refine cndF rfl ?_; (try (conv => whnf)))))
  refine ⟨x, dx, _, rfl, ho, webF_n (by decide +kernel) (by decide +kernel), ?_⟩
  ((try (conv => whnf)); repeat (first | (refine cndT rfl ?_; (try (conv => whnf))) | (refine cndF rfl ?_; (try (conv => whnf)))))
  refine ⟨x, p, q, W, n, rfl, hw.r, rfl, by unfold isPl; rw [hg]; rfl, ?_⟩
  ((try (conv => whnf)); repeat (first | (refine cndT rfl ?_; (try (conv => whnf))) | (refine cndF rfl ?_; (try (conv => whnf)))))
  refine ⟨x, dx, _, rfl, ho, webF_n (by decide +kernel) (by decide +kernel), ?_⟩
  ((try (conv => whnf)); repeat (first | (refine cndT rfl ?_; (try (conv => whnf))) | (refine cndF rfl ?_; (try (conv => whnf)))))
  refine ⟨w, rfl, w1, w2, ?_⟩
  ((try (conv => whnf)); repeat (first | (refine cndT rfl ?_; (try (conv => whnf))) | (refine cndF rfl ?_; (try (conv => whnf)))))
  refine ⟨x, dx, _, rfl, ho, webF_n (by decide +kernel) (by decide +kernel), ?_⟩
  ((try (conv => whnf)); repeat (first | (refine cndT rfl ?_; (try (conv => whnf))) | (refine cndF rfl ?_; (try (conv => whnf)))))
  refine ⟨x, p, q, W, rfl, hw, by omega, fun H2 s2 => ?_⟩
  have hw2 := hw.same s2
  have ho2 := s2 _ _ ho
  ((try (conv => whnf)); repeat (first | (refine cndT rfl ?_; (try (conv => whnf))) | (refine cndF rfl ?_; (try (conv => whnf)))))
  refine ⟨x, _, dx, _, _, rfl, ho2, hw.k.cls, hw.k.nh, webF_h, ?_⟩
  have g := hw2.hget n
  rw [hg] at g
  refine ixD g ?_
  ((try (conv => whnf)); repeat (first | (refine cndT rfl ?_; (try (conv => whnf))) | (refine cndF rfl ?_; (try (conv => whnf)))))
  refine cndF (decide_eq_false (by omega)) ?_
  ((try (conv => whnf)); repeat (first | (refine cndT rfl ?_; (try (conv => whnf))) | (refine cndF rfl ?_; (try (conv => whnf)))))
  refine ⟨x, _, dx, _, _, rfl, ho2, hw.k.cls, hw.k.nh, webF_h, ?_⟩
  ((try (conv => whnf)); repeat (first | (refine cndT rfl ?_; (try (conv => whnf))) | (refine cndF rfl ?_; (try (conv => whnf)))))
  refine setD rfl (DPut.k (k := kS n) hw2.hv (by rw [emb_len, sizeLine_eq]; omega)) ?_
  (generalize hG : _root_.L2.upd _ p _ = H3; have b3 := butOf hG; have e3 := atOf hG; clear hG; ((try (conv => whnf)); repeat (first | (refine cndT rfl ?_; (try (conv => whnf))) | (refine cndF rfl ?_; (try (conv => whnf))))))
  rw [emb_put kS_inj] at e3
  exact k H3 ((Kx.same s2).trans (.but b3 (by simp))) e3
theorem pure_Web_tie {K a b c d H Q E} (h : P_Web_tie K a b c d H Q E) : t_Web_tie K E { nx := fun _ H' => Q .non H', rt := Q } [some a, some b, some c, some d] H := by
  obtain ⟨x, p, q, W, n, m, w, rfl, hw, rfl, rfl, rfl, hn, hm, ne, w1, w2, hk, hl, ht, k⟩ := h
  obtain ⟨dx, ho⟩ := hw.o
  ((try (conv => whnf)); repeat (first | (refine cndT rfl ?_; (try (conv => whnf))) | (refine cndF rfl ?_; (try (conv => whnf)))))
  refine ⟨x, dx, _, rfl, ho, webF_n (by decide +kernel) (by decide +kernel), ?_⟩
  ((try (conv => whnf)); repeat (first | (refine cndT rfl ?_; (try (conv => whnf))) | (refine cndF rfl ?_; (try (conv => whnf)))))
  refine ⟨x, p, q, W, n, m, rfl, hw.r, rfl, rfl, hn, hm, ne, ?_⟩
  ((try (conv => whnf)); repeat (first | (refine cndT rfl ?_; (try (conv => whnf))) | (refine cndF rfl ?_; (try (conv => whnf)))))
  refine ⟨"int", 1, 1000000000, rfl, rfl, rfl, ?_⟩
  rw [show wholeV (.int w) 1 1000000000 = true by simp [wholeV, w1, w2]]
  ((try (conv => whnf)); repeat (first | (refine cndT rfl ?_; (try (conv => whnf))) | (refine cndF rfl ?_; (try (conv => whnf)))))
  refine ⟨x, dx, _, rfl, ho, webF_n (by decide +kernel) (by decide +kernel), ?_⟩
  ((try (conv => whnf)); repeat (first | (refine cndT rfl ?_; (try (conv => whnf))) | (refine cndF rfl ?_; (try (conv => whnf)))))
  refine ⟨x, p, q, W, n, m, rfl, hw.r, rfl, rfl, fun T u' v' H' e s eT => (by rw [hk] at e; cases e), fun H1 _ s1 => ?_⟩
  have hw1 := hw.same s1
  ((try (conv => whnf)); repeat (first | (refine cndT rfl ?_; (try (conv => whnf))) | (refine cndF rfl ?_; (try (conv => whnf)))))
  refine ⟨rfl, ?_⟩
  ((try (conv => whnf)); repeat (first | (refine cndT rfl ?_; (try (conv => whnf))) | (refine cndF rfl ?_; (try (conv => whnf)))))
  refine ⟨x, _, dx, _, _, rfl, s1 _ _ ho, hw.k.cls, hw.k.nk, webF_k, ?_⟩
  ((try (conv => whnf)); repeat (first | (refine cndT rfl ?_; (try (conv => whnf))) | (refine cndF rfl ?_; (try (conv => whnf)))))
  refine .inr (.inr (.inr (.inl ⟨_, hw1.kn, ?_⟩)))
  rw [emb_len]
  ((try (conv => whnf)); repeat (first | (refine cndT rfl ?_; (try (conv => whnf))) | (refine cndF rfl ?_; (try (conv => whnf)))))
  refine cndF (decide_eq_false (by omega)) ?_
  ((try (conv => whnf)); repeat (first | (refine cndT rfl ?_; (try (conv => whnf))) | (refine cndF rfl ?_; (try (conv => whnf)))))
  refine ⟨x, dx, _, rfl, s1 _ _ ho, webF_n (by decide +kernel) (by decide +kernel), ?_⟩
  ((try (conv => whnf)); repeat (first | (refine cndT rfl ?_; (try (conv => whnf))) | (refine cndF rfl ?_; (try (conv => whnf)))))
  refine ⟨x, p, q, W, rfl, hw1, by omega, fun H2 s2 => ?_⟩
  have hw2 := hw1.same s2
  have ho2 := s2 _ _ (s1 _ _ ho)
  ((try (conv => whnf)); repeat (first | (refine cndT rfl ?_; (try (conv => whnf))) | (refine cndF rfl ?_; (try (conv => whnf)))))
  refine cndF (decide_eq_false (by omega)) ?_
  ((try (conv => whnf)); repeat (first | (refine cndT rfl ?_; (try (conv => whnf))) | (refine cndF rfl ?_; (try (conv => whnf)))))
  refine ⟨x, _, dx, _, _, rfl, ho2, hw.k.cls, hw.k.nk, webF_k, ?_⟩
  ((try (conv => whnf)); repeat (first | (refine cndT rfl ?_; (try (conv => whnf))) | (refine cndF rfl ?_; (try (conv => whnf)))))
  refine ⟨by show 2 ≤ sizeLine; decide, ?_⟩
  (intro l3 n3; generalize hG : _root_.L2.upd _ l3 _ = H3; have s3 := sameOf n3 hG; have e3 := atOf hG; clear hG; ((try (conv => whnf)); repeat (first | (refine cndT rfl ?_; (try (conv => whnf))) | (refine cndF rfl ?_; (try (conv => whnf))))))
  have hw3 := hw2.same s3
  refine setD rfl (DPut.t (k := kP (n, m)) hw3.kn e3 (by rw [emb_len, sizeLine_eq]; omega)) ?_
  (generalize hG : _root_.L2.upd _ q _ = H4; have b4 := butOf hG; have e4 := atOf hG; clear hG; ((try (conv => whnf)); repeat (first | (refine cndT rfl ?_; (try (conv => whnf))) | (refine cndF rfl ?_; (try (conv => whnf))))))
  rw [emb_put kP_inj] at e4
  exact k H4 ((Kx.same ((s1.trans s2).trans s3)).trans (.but b4 (by simp))) e4
theorem pure_Web_more {K a b c d H Q E} (h : P_Web_more K a b c d H Q E) : t_Web_more K E { nx := fun _ H' => Q .non H', rt := Q } [some a, some b, some c, some d, none] H := by
  obtain ⟨x, p, q, W, n, m, u, v, w, w0, rfl, hw, rfl, rfl, rfl, hn, hm, ne, hk, hg, w1, w2, w3, hl, ht, k⟩ := h
  obtain ⟨dx, ho⟩ := hw.o
  ((try (conv => whnf)); repeat (first | (refine cndT rfl ?_; (try (conv => whnf))) | (refine cndF rfl ?_; (try (conv => whnf)))))
  refine ⟨x, dx, _, rfl, ho, webF_n (by decide +kernel) (by decide +kernel), ?_⟩
  ((try (conv => whnf)); repeat (first | (refine cndT rfl ?_; (try (conv => whnf))) | (refine cndF rfl ?_; (try (conv => whnf)))))
  refine ⟨x, p, q, W, n, m, u, v, rfl, hw.r, rfl, rfl, hn, hm, ne, hk, fun T H1 s1 eT => ?_⟩
  have hw1 := hw.same s1
  have ho1 := s1 _ _ ho
  ((try (conv => whnf)); repeat (first | (refine cndT rfl ?_; (try (conv => whnf))) | (refine cndF rfl ?_; (try (conv => whnf)))))
  refine ⟨"int", 0 - 1000000000, 1000000000, rfl, rfl, rfl, ?_⟩
  rw [show wholeV (.int w) (0 - 1000000000) 1000000000 = true by simp [wholeV]; omega]
  ((try (conv => whnf)); repeat (first | (refine cndT rfl ?_; (try (conv => whnf))) | (refine cndF rfl ?_; (try (conv => whnf)))))
  refine ⟨x, _, dx, _, _, rfl, ho1, hw.k.cls, hw.k.nk, webF_k, ?_⟩
  have g := hw1.kget eT
  rw [hg] at g
  refine ixD g ?_
  ((try (conv => whnf)); repeat (first | (refine cndT rfl ?_; (try (conv => whnf))) | (refine cndF rfl ?_; (try (conv => whnf)))))
  refine cndF (decide_eq_false (by omega)) ?_
  ((try (conv => whnf)); repeat (first | (refine cndT rfl ?_; (try (conv => whnf))) | (refine cndF rfl ?_; (try (conv => whnf)))))
  refine ⟨x, dx, _, rfl, ho1, webF_n (by decide +kernel) (by decide +kernel), ?_⟩
  ((try (conv => whnf)); repeat (first | (refine cndT rfl ?_; (try (conv => whnf))) | (refine cndF rfl ?_; (try (conv => whnf)))))
  refine ⟨x, p, q, W, rfl, hw1, by omega, fun H2 s2 => ?_⟩
  have hw2 := hw1.same s2
  have ho2 := s2 _ _ ho1
  ((try (conv => whnf)); repeat (first | (refine cndT rfl ?_; (try (conv => whnf))) | (refine cndF rfl ?_; (try (conv => whnf)))))
  refine cndF (decide_eq_false (by omega)) ?_
  ((try (conv => whnf)); repeat (first | (refine cndT rfl ?_; (try (conv => whnf))) | (refine cndF rfl ?_; (try (conv => whnf)))))
  refine ⟨x, _, dx, _, _, rfl, ho2, hw.k.cls, hw.k.nk, webF_k, ?_⟩
  have eT2 := s2 _ _ eT
  have g2 := hw2.kget eT2
  rw [hg] at g2
  refine getD g2 ?_
  ((try (conv => whnf)); repeat (first | (refine cndT rfl ?_; (try (conv => whnf))) | (refine cndF rfl ?_; (try (conv => whnf)))))
  refine setD rfl (DPut.t (k := kP (u, v)) hw2.kn eT2 (by rw [emb_len, sizeLine_eq]; omega)) ?_
  (generalize hG : _root_.L2.upd _ q _ = H4; have b4 := butOf hG; have e4 := atOf hG; clear hG; ((try (conv => whnf)); repeat (first | (refine cndT rfl ?_; (try (conv => whnf))) | (refine cndF rfl ?_; (try (conv => whnf))))))
  rw [emb_put kP_inj] at e4
  exact k H4 ((Kx.same (s1.trans s2)).trans (.but b4 (by simp))) e4
theorem pure_Web_names {K a H Q E} (h : P_Web_names K a H Q E) : t_Web_names K E { nx := fun _ H' => Q .non H', rt := Q } [some a] H := by
  obtain ⟨x, p, q, W, rfl, hw, k⟩ := h
  obtain ⟨dx, ho⟩ := hw.o
  ((try (conv => whnf)); repeat (first | (refine cndT rfl ?_; (try (conv => whnf))) | (refine cndF rfl ?_; (try (conv => whnf)))))
  refine ⟨x, _, dx, _, _, rfl, ho, hw.k.cls, hw.k.nh, webF_h, ?_⟩
  left
  refine ⟨p, _, rfl, hw.hv, ?_⟩
  (intro l n1; generalize hG : _root_.L2.upd _ l _ = H1; have s1 := sameOf n1 hG; have e1 := atOf hG; clear hG; ((try (conv => whnf)); repeat (first | (refine cndT rfl ?_; (try (conv => whnf))) | (refine cndF rfl ?_; (try (conv => whnf))))))
  refine k l H1 n1 s1 ?_
  rw [e1]
  unfold emb
  rw [List.map_map]
  rfl
theorem pure_Web_weight {K a b H Q E} (h : P_Web_weight K a b H Q E) : t_Web_weight K E { nx := fun _ H' => Q .non H', rt := Q } [some a, some b] H := by
  obtain ⟨x, p, q, W, n, w, rfl, hw, rfl, hg, k⟩ := h
  obtain ⟨dx, ho⟩ := hw.o
  ((try (conv => whnf)); repeat (first | (refine cndT rfl ?_; (try (conv => whnf))) | (refine cndF rfl ?_; (try (conv => whnf)))))
  refine ⟨x, dx, _, rfl, ho, webF_n (by decide +kernel) (by decide +kernel), ?_⟩
  ((try (conv => whnf)); repeat (first | (refine cndT rfl ?_; (try (conv => whnf))) | (refine cndF rfl ?_; (try (conv => whnf)))))
  refine ⟨x, p, q, W, n, rfl, hw, rfl, by unfold isPl; rw [hg]; rfl, ?_⟩
  ((try (conv => whnf)); repeat (first | (refine cndT rfl ?_; (try (conv => whnf))) | (refine cndF rfl ?_; (try (conv => whnf)))))
  refine ⟨x, _, dx, _, _, rfl, ho, hw.k.cls, hw.k.nh, webF_h, ?_⟩
  have g := hw.hget n
  rw [hg] at g
  refine ixD g ?_
  exact k
theorem pure_Web_strength {K a b c H Q E} (h : P_Web_strength K a b c H Q E) : t_Web_strength K E { nx := fun _ H' => Q .non H', rt := Q } [some a, some b, some c, none] H := by
  obtain ⟨x, p, q, W, n, m, rfl, hw, rfl, rfl, hn, hm, k⟩ := h
  obtain ⟨dx, ho⟩ := hw.o
  ((try (conv => whnf)); repeat (first | (refine cndT rfl ?_; (try (conv => whnf))) | (refine cndF rfl ?_; (try (conv => whnf)))))
  refine ⟨x, dx, _, rfl, ho, webF_n (by decide +kernel) (by decide +kernel), ?_⟩
  ((try (conv => whnf)); repeat (first | (refine cndT rfl ?_; (try (conv => whnf))) | (refine cndF rfl ?_; (try (conv => whnf)))))
  refine ⟨x, p, q, W, n, rfl, hw, rfl, hn, ?_⟩
  ((try (conv => whnf)); repeat (first | (refine cndT rfl ?_; (try (conv => whnf))) | (refine cndF rfl ?_; (try (conv => whnf)))))
  refine ⟨x, dx, _, rfl, ho, webF_n (by decide +kernel) (by decide +kernel), ?_⟩
  ((try (conv => whnf)); repeat (first | (refine cndT rfl ?_; (try (conv => whnf))) | (refine cndF rfl ?_; (try (conv => whnf)))))
  refine ⟨x, p, q, W, m, rfl, hw, rfl, hm, ?_⟩
  ((try (conv => whnf)); repeat (first | (refine cndT rfl ?_; (try (conv => whnf))) | (refine cndF rfl ?_; (try (conv => whnf)))))
  refine ⟨x, dx, _, rfl, ho, webF_n (by decide +kernel) (by decide +kernel), ?_⟩
  ((try (conv => whnf)); repeat (first | (refine cndT rfl ?_; (try (conv => whnf))) | (refine cndF rfl ?_; (try (conv => whnf)))))
  refine ⟨x, p, q, W, n, m, rfl, hw, rfl, rfl, fun T u v H1 e s1 eT => ?_, fun H1 e s1 => ?_⟩
  · have hw1 := hw.same s1
    ((try (conv => whnf)); repeat (first | (refine cndT rfl ?_; (try (conv => whnf))) | (refine cndF rfl ?_; (try (conv => whnf)))))
    refine ⟨rfl, ?_⟩
    ((try (conv => whnf)); repeat (first | (refine cndT rfl ?_; (try (conv => whnf))) | (refine cndF rfl ?_; (try (conv => whnf)))))
    refine ⟨x, _, dx, _, _, rfl, s1 _ _ ho, hw.k.cls, hw.k.nk, webF_k, ?_⟩
    obtain ⟨w, hw2⟩ := knotW_some e
    have g := hw1.kget eT
    rw [hw2] at g
    refine ixD g ?_
    have k := k H1 s1
    rw [show tieW W n m = w by unfold tieW; rw [e]; show (getA W.kn (u, v)).getD 0 = w; rw [hw2]; rfl] at k
    exact k
  · ((try (conv => whnf)); repeat (first | (refine cndT rfl ?_; (try (conv => whnf))) | (refine cndF rfl ?_; (try (conv => whnf)))))
    refine ⟨rfl, ?_⟩
    ((try (conv => whnf)); repeat (first | (refine cndT rfl ?_; (try (conv => whnf))) | (refine cndF rfl ?_; (try (conv => whnf)))))
    have k := k H1 s1
    rw [show tieW W n m = 0 by unfold tieW; rw [e]] at k
    exact k
theorem pure_Web_init {K a H Q E} (h : P_Web_init K a H Q E) : t_Web_init K E { nx := fun _ H' => Q .non H', rt := Q } [some a] H := by
  obtain ⟨x, dx, rfl, hk, ho, k⟩ := h
  ((try (conv => whnf)); repeat (first | (refine cndT rfl ?_; (try (conv => whnf))) | (refine cndF rfl ?_; (try (conv => whnf)))))
  left
  (intro p n1; generalize hG : _root_.L2.upd _ p _ = H1; have s1 := sameOf n1 hG; have e1 := atOf hG; clear hG; ((try (conv => whnf)); repeat (first | (refine cndT rfl ?_; (try (conv => whnf))) | (refine cndF rfl ?_; (try (conv => whnf))))))
  refine ⟨x, wC K, dx, [], rfl, s1 _ _ ho, hk.cls, hk.nh, by decide, ?_⟩
  (generalize hG : _root_.L2.upd _ x _ = H2; have b2 := butOf hG; have e2 := atOf hG; clear hG; ((try (conv => whnf)); repeat (first | (refine cndT rfl ?_; (try (conv => whnf))) | (refine cndF rfl ?_; (try (conv => whnf))))))
  right
  (intro q n2; generalize hG : _root_.L2.upd _ q _ = H3; have s3 := sameOf n2 hG; have e3 := atOf hG; clear hG; ((try (conv => whnf)); repeat (first | (refine cndT rfl ?_; (try (conv => whnf))) | (refine cndF rfl ?_; (try (conv => whnf))))))
  refine ⟨x, wC K, dx, _, rfl, s3 _ _ e2, hk.cls, hk.nk, by show 1 < 1000; decide, ?_⟩
  (generalize hG : _root_.L2.upd _ x _ = H4; have b4 := butOf hG; have e4 := atOf hG; clear hG; ((try (conv => whnf)); repeat (first | (refine cndT rfl ?_; (try (conv => whnf))) | (refine cndF rfl ?_; (try (conv => whnf))))))
  have n1' : x ≠ p := ne_of_none ho n1
  have n2' : x ≠ q := ne_of_none e2 n2
  have nq : H q = none := s1.free (by
    cases hq : H1 q with
    | none => rfl
    | some o => have y := b2.at hq (fun z => by rw [z, e2] at n2; cases n2); rw [n2] at y; cases y)
  refine k p q H4 n1 nq ⟨hk, ⟨dx, e4⟩, b4.at (s3 _ _ (b2.at e1 n1'.symm)) n1'.symm, b4.at e3 n2'.symm⟩ ?_
  exact (((Kx.same s1).trans (.but b2 (by simp))).trans (.same s3)).trans (.but b4 (by simp))
theorem dropA_none {α : Type} [DecidableEq α] {l : List (α × Int)} {k : α} (h : k ∉ l.map Prod.fst) : dropA l k = l := by
  unfold dropA
  refine List.filter_eq_self.mpr fun p hp => decide_eq_true fun e => h ?_
  rw [← e]
  exact List.mem_map_of_mem hp
theorem drop_step {l : List ((Str × Str) × Int)} (nd : (l.map Prod.fst).Nodup) {i : Nat} {e : (Str × Str) × Int} (he : l[i]? = some e) (f : (Str × Str) × Int → Bool) :
    dropA ((l.take i).filter f ++ l.drop i) e.1 = (l.take i).filter f ++ l.drop (i + 1) ∧ l.drop i = e :: l.drop (i + 1) ∧ l.take (i + 1) = l.take i ++ [e] := by
  have hi : i < l.length := by
    rcases Nat.lt_or_ge i l.length with h | h
    · exact h
    · rw [List.getElem?_eq_none h] at he; cases he
  have hd : l.drop i = e :: l.drop (i + 1) := by
    rw [List.getElem?_eq_getElem hi] at he
    rw [List.drop_eq_getElem_cons hi, Option.some.inj he]
  have ht : l.take (i + 1) = l.take i ++ [e] := by rw [List.take_add_one, he]; rfl
  have nd2 : ((l.take i).map Prod.fst ++ (e :: l.drop (i + 1)).map Prod.fst).Nodup := by
    rw [← List.map_append, ← hd, List.take_append_drop]
    exact nd
  rw [List.map_cons, List.nodup_append] at nd2
  obtain ⟨_, n2, n3⟩ := nd2
  rw [List.nodup_cons] at n2
  refine ⟨?_, hd, ht⟩
  have a1 : dropA ((l.take i).filter f) e.1 = (l.take i).filter f := dropA_none fun h => by
    obtain ⟨z, hz, ez⟩ := List.mem_map.mp h
    exact n3 z.1 (List.mem_map_of_mem (List.mem_filter.mp hz).1) e.1 (List.mem_cons_self ..) ez
  have a2 : dropA (e :: l.drop (i + 1)) e.1 = l.drop (i + 1) := by
    show List.filter _ (e :: _) = _
    rw [List.filter_cons_of_neg (by simp)]
    exact dropA_none n2.1
  have a3 : dropA ((l.take i).filter f ++ (e :: l.drop (i + 1))) e.1 = dropA ((l.take i).filter f) e.1 ++ dropA (e :: l.drop (i + 1)) e.1 := List.filter_append ..
  rw [hd, a3, a1, a2]
theorem getA_mid {l : List ((Str × Str) × Int)} (nd : (l.map Prod.fst).Nodup) {i : Nat} {e : (Str × Str) × Int} (he : l[i]? = some e) (f : (Str × Str) × Int → Bool) :
    ∃ w, getA ((l.take i).filter f ++ l.drop i) e.1 = some w := by
  obtain ⟨_, hd, _⟩ := drop_step nd he f
  have hm : e ∈ (l.take i).filter f ++ l.drop i := List.mem_append_right _ (by rw [hd]; exact List.mem_cons_self ..)
  unfold getA
  cases h : List.find? (fun p => decide (p.1 = e.1)) ((l.take i).filter f ++ l.drop i) with
  | none => exact absurd (List.find?_eq_none.mp h e hm) (by simp)
  | some z => exact ⟨z.2, rfl⟩
theorem unlockK {S : List Addr} {p : Addr} {H HL H' H2 : Hp} {u : HO} (hp : H p = some u) (b : But p H HL) (s : Kx S HL H') (e : L2.upd H' p u = H2) : Kx S H H2 := fun x o n h => by
  subst e
  by_cases c : x = p
  · rw [c, upd_same, ← hp, ← c, h]
  · rw [upd_ne c]
    exact s _ _ n ((b x c).trans h)
theorem getA_app {α : Type} [DecidableEq α] {l : List (α × Int)} {k : α} {v : Int} (h : getA l k = none) : putA l k v = l ++ [(k, v)] := by
  unfold putA
  rw [if_neg]
  intro z
  obtain ⟨p, hp, e⟩ := List.any_eq_true.mp z
  unfold getA at h
  cases hf : List.find? (fun p => decide (p.1 = k)) l with
  | none => exact absurd e (List.find?_eq_none.mp hf p hp)
  | some z => rw [hf] at h; cases h
theorem getA_notin {α : Type} [DecidableEq α] {l : List (α × Int)} {k : α} (h : k ∉ l.map Prod.fst) : getA l k = none := by
  unfold getA
  cases hf : List.find? (fun p => decide (p.1 = k)) l with
  | none => rfl
  | some z =>
    have e := List.find?_some hf
    exact absurd (List.mem_map.mpr ⟨z, List.mem_of_find?_eq_some hf, of_decide_eq_true e⟩) h
theorem isPl_of {W : WebS} {i : Nat} {e : Str × Int} (he : W.hv[i]? = some e) : isPl W e.1 := by
  unfold isPl
  cases h : getA W.hv e.1 with
  | some w => rfl
  | none =>
    unfold getA at h
    cases hf : List.find? (fun p => decide (p.1 = e.1)) W.hv with
    | none => exact absurd (List.find?_eq_none.mp hf e (List.mem_of_getElem? he)) (by simp)
    | some z => rw [hf] at h; cases h
theorem nodup_at {α β : Type} {l : List (α × β)} (nd : (l.map Prod.fst).Nodup) {i : Nat} {e : α × β} (he : l[i]? = some e) : e.1 ∉ (l.take i).map Prod.fst := by
  intro hm
  have hd : l = l.take i ++ e :: l.drop (i + 1) := by
    have hi : i < l.length := by
      rcases Nat.lt_or_ge i l.length with h | h
      · exact h
      · rw [List.getElem?_eq_none h] at he; cases he
    rw [List.getElem?_eq_getElem hi] at he
    have := List.drop_eq_getElem_cons hi
    rw [Option.some.inj he] at this
    rw [← this, List.take_append_drop]
  rw [hd, List.map_append, List.nodup_append] at nd
  obtain ⟨_, _, n3⟩ := nd
  exact n3 _ hm e.1 (by simp) rfl
theorem getA_put {α : Type} [DecidableEq α] (l : List (α × Int)) (k j : α) (v : Int) : getA (putA l k v) j = if j = k then some v else getA l j := by
  have h := valV_put (emb (id : α → α) l) k j (V.int v)
  rw [show putK (emb (id : α → α) l) k (V.int v) = emb id (putA l k v) from emb_put (f := (id : α → α)) (fun _ _ h => h) l k v] at h
  rw [show valV (emb (id : α → α) (putA l k v)) j = (getA (putA l k v) j).map V.int from emb_val (f := (id : α → α)) (fun _ _ h => h) _ j,
    show valV (emb (id : α → α) l) j = (getA l j).map V.int from emb_val (f := (id : α → α)) (fun _ _ h => h) _ j] at h
  by_cases c : j = k
  · rw [if_pos c] at h ⊢
    cases e : getA (putA l k v) j with
    | none => rw [e] at h; cases h
    | some z => rw [e] at h; cases h; rfl
  · rw [if_neg c] at h ⊢
    cases e : getA (putA l k v) j with
    | none =>
      rw [e] at h
      cases e2 : getA l j with
      | none => rfl
      | some z => rw [e2] at h; cases h
    | some z =>
      rw [e] at h
      cases e2 : getA l j with
      | none => rw [e2] at h; cases h
      | some z2 => rw [e2] at h; cases h; rfl
theorem putA_len {α : Type} [DecidableEq α] (l : List (α × Int)) (k : α) (v : Int) : (putA l k v).length ≤ l.length + 1 := by
  unfold putA
  split
  · rw [List.length_map]; omega
  · rw [List.length_append]; simp
theorem rank_lt {l : List (Str × Int)} {n : Str} (h : (getA l n).isSome = true) : rankA l n < l.length ∧ ∃ e, l[rankA l n]? = some e ∧ e.1 = n := by
  have h1 : rankA l n < l.length := by
    unfold rankA
    rw [List.findIdx_lt_length]
    unfold getA at h
    cases hf : List.find? (fun p => decide (p.1 = n)) l with
    | none => rw [hf] at h; cases h
    | some z =>
      have e := List.find?_some hf
      exact ⟨z, List.mem_of_find?_eq_some hf, e⟩
  refine ⟨h1, _, List.getElem?_eq_getElem h1, ?_⟩
  exact of_decide_eq_true (List.findIdx_getElem (w := h1))
theorem rank_at {l : List (Str × Int)} (nd : (l.map Prod.fst).Nodup) {i : Nat} {e : Str × Int} (he : l[i]? = some e) : rankA l e.1 = i := by
  have hi : i < l.length := by
    rcases Nat.lt_or_ge i l.length with h | h
    · exact h
    · rw [List.getElem?_eq_none h] at he; cases he
  have hs : (getA l e.1).isSome = true := isPl_of (W := ⟨l, []⟩) he
  obtain ⟨h1, e2, h2, h3⟩ := rank_lt hs
  have g1 : (l.map Prod.fst)[rankA l e.1]? = some e.1 := by rw [List.getElem?_map, h2, ← h3]; rfl
  have g2 : (l.map Prod.fst)[i]? = some e.1 := by rw [List.getElem?_map, he]; rfl
  exact (List.getElem?_inj (by rw [List.length_map]; exact h1) nd).mp (g1.trans g2.symm)
theorem pure_Web_ties {K a H Q E} (h : P_Web_ties K a H Q E) : t_Web_ties K E { nx := fun _ H' => Q .non H', rt := Q } [some a, none, none, none, none, none, none, none] H := by
  obtain ⟨x, p, q, W, rfl, hw, nd, hl, hkl, hk, k⟩ := h
  obtain ⟨dx, ho⟩ := hw.o
  have nxp : x ≠ p := fun e => by rw [e, hw.hv] at ho; cases ho
  have nxq : x ≠ q := fun e => by rw [e, hw.kn] at ho; cases ho
  have npq : q ≠ p := fun e => by have := hw.hv; rw [← e, hw.kn] at this; cases this
  left
  (intro r nr; generalize hG : _root_.L2.upd _ r _ = H1; have s1 := sameOf nr hG; have e1 := atOf hG; clear hG; ((try (conv => whnf)); repeat (first | (refine cndT rfl ?_; (try (conv => whnf))) | (refine cndF rfl ?_; (try (conv => whnf))))))
  have hw1 := hw.same s1
  have npr : r ≠ p := (ne_of_none hw.hv nr).symm
  have nqr : r ≠ q := (ne_of_none hw.kn nr).symm
  have nxr : r ≠ x := (ne_of_none ho nr).symm
  right
  ((try (conv => whnf)); repeat (first | (refine cndT rfl ?_; (try (conv => whnf))) | (refine cndF rfl ?_; (try (conv => whnf)))))
  refine ⟨p, _, hw1.hv, trivial, fun od => ?_⟩
  (generalize hG : _root_.L2.upd _ p _ = HL; have bL := butOf hG; have eL := atOf hG; clear hG; ((try (conv => whnf)); repeat (first | (refine cndT rfl ?_; (try (conv => whnf))) | (refine cndF rfl ?_; (try (conv => whnf))))))
  refine ⟨x, _, dx, _, _, rfl, bL.at (s1 _ _ ho) nxp, hw.k.cls, hw.k.nh, webF_h, ?_⟩
  ((try (conv => whnf)); repeat (first | (refine cndT rfl ?_; (try (conv => whnf))) | (refine cndF rfl ?_; (try (conv => whnf)))))
  right
  refine .inl ⟨p, od, _, rfl, eL, ?_⟩
  refine forIt walk_enumK (fun i σ H' => Kx [r] HL H' ∧ (∃ R, H' r = some (.dK (emb kS R)) ∧ R.length ≤ i ∧ ∀ j e, W.hv[j]? = some e → j < i → getA R e.1 = some (j : Int)) ∧ ∃ v3 v4 : Option V, σ = [some (.ref x), some (.ref r), none, v3, v4, none, none, none]) ⟨Kx.refl, ⟨[], bL.at e1 npr, Nat.le_refl _, fun j e _ h => absurd h (Nat.not_lt_zero _)⟩, _, _, rfl⟩ ?_ ?_ ?_
  · rintro i σ H' _ ⟨kx, _⟩
    exact kx p _ (by simp [Ne.symm npr]) eL
  · rintro i y σ H2 H3 hi ⟨kx, ⟨R, hR, hRl, hRg⟩, v3, v4, rfl⟩ ⟨T, k', v', hk', rfl, nT, e3⟩
    have s3 := sameOf nT e3.symm
    have eT := atOf e3.symm
    clear e3
    obtain ⟨e, he, e1', e2'⟩ : ∃ e, W.hv[i]? = some e ∧ k' = kS e.1 ∧ v' = .int e.2 := by
      unfold emb at hk'
      rw [List.getElem?_map] at hk'
      obtain ⟨e, he, ee⟩ := Option.map_eq_some_iff.mp hk'
      cases ee
      exact ⟨e, he, rfl, rfl⟩
    subst e1' e2'
    have hi' : i < 60 := by rw [emb_len] at hi; omega
    ((try (conv => whnf)); repeat (first | (refine cndT rfl ?_; (try (conv => whnf))) | (refine cndF rfl ?_; (try (conv => whnf)))))
    refine ⟨T, _, rfl, SqT.of eT, rfl, _, _, rfl, _, _, rfl, rfl, ?_⟩
    ((try (conv => whnf)); repeat (first | (refine cndT rfl ?_; (try (conv => whnf))) | (refine cndF rfl ?_; (try (conv => whnf)))))
    refine setD rfl (DPut.k (k := kS e.1) (s3 _ _ hR) (by rw [emb_len, sizeLine_eq]; omega)) ?_
    (generalize hG : _root_.L2.upd _ r _ = H4; have b4 := butOf hG; have e4 := atOf hG; clear hG; ((try (conv => whnf)); repeat (first | (refine cndT rfl ?_; (try (conv => whnf))) | (refine cndF rfl ?_; (try (conv => whnf))))))
    rw [emb_put kS_inj] at e4
    refine ⟨(kx.trans (.same s3)).trans (.but b4 (by simp)), ⟨_, e4, Nat.le_trans (putA_len ..) (by omega), fun j e' he' hj => ?_⟩, _, _, rfl⟩
    rw [getA_put]
    by_cases c : e'.1 = e.1
    · rw [if_pos c]
      have h1 := rank_at nd he'
      have h2 := rank_at nd he
      rw [c, h2] at h1
      rw [h1]
    · rw [if_neg c]
      refine hRg j e' he' ?_
      rcases Nat.lt_or_ge j i with h | h
      · exact h
      · have : j = i := by omega
        rw [this, he] at he'
        cases he'
        exact absurd rfl c
  · rintro σ H2 ⟨kx, ⟨R, hR, hRl, hRg⟩, v3, v4, rfl⟩
    refine ⟨kx p _ (by simp [Ne.symm npr]) eL, ?_⟩
    generalize hG : L2.upd _ p _ = G
    have kG : Kx [r] H1 G := unlockK hw1.hv bL kx hG
    have hGr : G r = some (.dK (emb kS R)) := by rw [← hG, upd_ne npr, hR]
    clear hG
    have sG : Same H G := fun b o e => kG b o (fun z => ne_n (some_ne e) nr (by simpa using z)) (s1 _ _ e)
    have hwG := hw.same sG
    have rk : ∀ n, isPl W n → getA R n = some (rankA W.hv n : Int) := fun n hn => by
      obtain ⟨h1, e, h2, h3⟩ := rank_lt hn
      rw [← h3] at h2 ⊢
      rw [h3] at h2 ⊢
      have := hRg (rankA W.hv n) e h2 (by rw [emb_len]; exact h1)
      rw [h3] at this
      exact this
    ((try (conv => whnf)); repeat (first | (refine cndT rfl ?_; (try (conv => whnf))) | (refine cndF rfl ?_; (try (conv => whnf)))))
    refine ⟨by show 0 ≤ sizeLine; decide, ?_⟩
    (intro l nl; generalize hG : _root_.L2.upd _ l _ = H4; have s4 := sameOf nl hG; have e4 := atOf hG; clear hG; ((try (conv => whnf)); repeat (first | (refine cndT rfl ?_; (try (conv => whnf))) | (refine cndF rfl ?_; (try (conv => whnf))))))
    have nlr : r ≠ l := ne_of_none hGr nl
    have nlq : q ≠ l := ne_of_none hwG.kn nl
    have nlx : x ≠ l := ne_of_none (sG _ _ ho) nl
    have hw4 := hwG.same s4
    refine ⟨q, _, hw4.kn, trivial, fun od2 => ?_⟩
    (generalize hG : _root_.L2.upd _ q _ = HM; have bM := butOf hG; have eM := atOf hG; clear hG; ((try (conv => whnf)); repeat (first | (refine cndT rfl ?_; (try (conv => whnf))) | (refine cndF rfl ?_; (try (conv => whnf))))))
    refine ⟨x, _, dx, _, _, rfl, bM.at (s4 _ _ (sG _ _ ho)) nxq, hw.k.cls, hw.k.nk, webF_k, ?_⟩
    ((try (conv => whnf)); repeat (first | (refine cndT rfl ?_; (try (conv => whnf))) | (refine cndF rfl ?_; (try (conv => whnf)))))
    refine ⟨q, od2, rfl, .inr ⟨_, eM, ?_⟩⟩
    refine forIt walk_itemsT (fun i σ H' => Kx [l] HM H' ∧ (∃ ts, H' l = some (.lst (ts.map V.ref)) ∧ ts.length = i ∧ Paired (isTie H') ts ((W.kn.map (tieT W)).take i)) ∧ ∃ v3 v4 v5 v6 v7 : Option V, σ = [some (.ref x), some (.ref r), some (.ref l), v3, v4, v5, v6, v7]) ⟨Kx.refl, ⟨[], bM.at e4 nlq.symm, rfl, .nil⟩, _, _, _, _, _, rfl⟩ ?_ ?_ ?_
    · rintro i σ H' _ ⟨kx, _⟩
      exact kx q _ (by simp [nlq]) eM
    · rintro i y σ H5 H6 hi ⟨kx, ⟨ts, hts, htl, htp⟩, v3, v4, v5, v6, v7, rfl⟩ ⟨T, k', v', kq, hk', hkq, rfl, nT, e6⟩
      have s6 := sameOf nT e6.symm
      have eT := atOf e6.symm
      clear e6
      obtain ⟨e, he, e1', e2'⟩ : ∃ e, W.kn[i]? = some e ∧ k' = kP e.1 ∧ v' = .int e.2 := by
        unfold emb at hk'
        rw [List.getElem?_map] at hk'
        obtain ⟨e, he, ee⟩ := Option.map_eq_some_iff.mp hk'
        cases ee
        exact ⟨e, he, rfl, rfl⟩
      subst e1' e2'
      have hi' : i < 200 := by rw [emb_len] at hi; omega
      obtain ⟨p1, p2⟩ := hk e (List.mem_of_getElem? he)
      have g1 : DGet H6 r (.str e.1.1) (some (.int (rankA W.hv e.1.1 : Int))) := by
        have hr6 := s6 _ _ (kx r _ (by simp [nlr]) (bM.at (s4 _ _ hGr) nqr))
        have := DGet.k (k := kS e.1.1) hr6
        rw [emb_val kS_inj, rk _ p1] at this
        exact this
      have g2 : DGet H6 r (.str e.1.2) (some (.int (rankA W.hv e.1.2 : Int))) := by
        have hr6 := s6 _ _ (kx r _ (by simp [nlr]) (bM.at (s4 _ _ hGr) nqr))
        have := DGet.k (k := kS e.1.2) hr6
        rw [emb_val kS_inj, rk _ p2] at this
        exact this
      have htk : (W.kn.map (tieT W)).take (i + 1) = (W.kn.map (tieT W)).take i ++ [tieT W e] := by
        rw [List.take_add_one, List.getElem?_map, he]; rfl
      have hl6 := s6 _ _ hts
      ((try (conv => whnf)); repeat (first | (refine cndT rfl ?_; (try (conv => whnf))) | (refine cndF rfl ?_; (try (conv => whnf)))))
      refine ⟨T, _, rfl, SqT.of eT, rfl, _, _, rfl, kq, _, rfl, SqT.of (s6 _ _ hkq), rfl, _, _, rfl, _, _, rfl, rfl, _, _, rfl, rfl, ?_⟩
      ((try (conv => whnf)); repeat (first | (refine cndT rfl ?_; (try (conv => whnf))) | (refine cndF rfl ?_; (try (conv => whnf)))))
      refine ixD g1 ?_
      ((try (conv => whnf)); repeat (first | (refine cndT rfl ?_; (try (conv => whnf))) | (refine cndF rfl ?_; (try (conv => whnf)))))
      refine ixD g2 ?_
      ((try (conv => whnf)); repeat (first | (refine cndT rfl ?_; (try (conv => whnf))) | (refine cndF rfl ?_; (try (conv => whnf)))))
      have fin : ∀ (t : Addr) (H7 H8 : Hp), Same H6 H7 → H7 t = some (.tup [.str (tieT W e).1.1, .str (tieT W e).1.2, .int (tieT W e).2]) → But l H7 H8 → H8 l = some (.lst (ts.map V.ref ++ [.ref t])) →
          Kx [l] HM H8 ∧ ∃ ts', H8 l = some (.lst (ts'.map V.ref)) ∧ ts'.length = i + 1 ∧ Paired (isTie H8) ts' ((W.kn.map (tieT W)).take (i + 1)) := fun t H7 H8 s7 et b8 e8 => by
        refine ⟨(kx.trans (.same (s6.trans s7))).trans (.but b8 (by simp)), ts ++ [t], by rw [e8, List.map_append]; rfl, by rw [List.length_append, htl]; rfl, ?_⟩
        rw [htk]
        refine Paired.snoc (Paired.mapP htp fun a b hab => ?_) ?_
        · have h7 := s7 _ _ (s6 _ _ hab)
          exact b8.at h7 (fun z => by rw [z, s7 _ _ hl6] at h7; cases h7)
        · exact b8.at et (fun z => by rw [z, s7 _ _ hl6] at et; cases et)
      (refine cndB (fun c1 => ?_) (fun c1 => ?_) <;> (try simp only [Bool.not_eq_eq_eq_not, Bool.not_true, Bool.not_false, decide_eq_true_eq, decide_eq_false_iff_not, Int.not_le, Int.not_lt] at c1) <;> ((try (conv => whnf)); repeat (first | (refine cndT rfl ?_; (try (conv => whnf))) | (refine cndF rfl ?_; (try (conv => whnf))))))
      · refine ⟨.inl ⟨rfl, _, SqL.of hl6⟩, ?_⟩
        ((try (conv => whnf)); repeat (first | (refine cndT rfl ?_; (try (conv => whnf))) | (refine cndF rfl ?_; (try (conv => whnf)))))
        refine ⟨by show 3 ≤ sizeLine; decide, ?_⟩
        (intro t nt; generalize hG : _root_.L2.upd _ t _ = H7; have s7 := sameOf nt hG; have e7 := atOf hG; clear hG; ((try (conv => whnf)); repeat (first | (refine cndT rfl ?_; (try (conv => whnf))) | (refine cndF rfl ?_; (try (conv => whnf))))))
        refine ⟨l, _, _, rfl, rfl, s7 _ _ hl6, by rw [List.length_map, sizeLine_eq]; omega, ?_⟩
        (generalize hG : _root_.L2.upd _ l _ = H8; have b8 := butOf hG; have e8 := atOf hG; clear hG; ((try (conv => whnf)); repeat (first | (refine cndT rfl ?_; (try (conv => whnf))) | (refine cndF rfl ?_; (try (conv => whnf))))))
        obtain ⟨a1, a2⟩ := fin t H7 H8 s7 (by rw [show tieT W e = e by unfold tieT; rw [if_pos (by omega)]]; exact e7) b8 e8
        exact ⟨a1, a2, _, _, _, _, _, rfl⟩
      · refine ⟨.inl ⟨rfl, _, SqL.of hl6⟩, ?_⟩
        ((try (conv => whnf)); repeat (first | (refine cndT rfl ?_; (try (conv => whnf))) | (refine cndF rfl ?_; (try (conv => whnf)))))
        refine ⟨by show 3 ≤ sizeLine; decide, ?_⟩
        (intro t nt; generalize hG : _root_.L2.upd _ t _ = H7; have s7 := sameOf nt hG; have e7 := atOf hG; clear hG; ((try (conv => whnf)); repeat (first | (refine cndT rfl ?_; (try (conv => whnf))) | (refine cndF rfl ?_; (try (conv => whnf))))))
        refine ⟨l, _, _, rfl, rfl, s7 _ _ hl6, by rw [List.length_map, sizeLine_eq]; omega, ?_⟩
        (generalize hG : _root_.L2.upd _ l _ = H8; have b8 := butOf hG; have e8 := atOf hG; clear hG; ((try (conv => whnf)); repeat (first | (refine cndT rfl ?_; (try (conv => whnf))) | (refine cndF rfl ?_; (try (conv => whnf))))))
        obtain ⟨a1, a2⟩ := fin t H7 H8 s7 (by rw [show tieT W e = ((e.1.2, e.1.1), e.2) by unfold tieT; rw [if_neg (by omega)]]; exact e7) b8 e8
        exact ⟨a1, a2, _, _, _, _, _, rfl⟩
    · rintro σ H5 ⟨kx, ⟨ts, hts, htl, htp⟩, v3, v4, v5, v6, v7, rfl⟩
      refine ⟨kx q _ (by simp [nlq]) eM, ?_⟩
      generalize hG5 : L2.upd _ q _ = G5
      have kG5 : Kx [l] H4 G5 := unlockK hw4.kn bM kx hG5
      have hG5l : G5 l = some (.lst (ts.map V.ref)) := by rw [← hG5, upd_ne nlq.symm, hts]
      ((try (conv => whnf)); repeat (first | (refine cndT rfl ?_; (try (conv => whnf))) | (refine cndF rfl ?_; (try (conv => whnf)))))
      refine k l ts G5 (sG.free nl) (fun b o e => kG5 b o (fun z => ne_n (some_ne (sG _ _ e)) nl (by simpa using z)) (s4 _ _ (sG _ _ e))) hG5l ?_
      rw [emb_len, List.take_of_length_le (by rw [List.length_map]; exact Nat.le_refl _)] at htp
      refine Paired.mapP htp fun a b hab => ?_
      show G5 a = _
      rw [← hG5, upd_ne (fun z => by
        have h2 : H5 a = _ := hab
        rw [z, kx q _ (by simp [nlq]) eM] at h2
        cases h2)]
      exact hab

mutual
theorem eqvR : ∀ d : PyData, d.canLay0 = true → PyData.eqv d d = true
  | .none, _ => rfl
  | .bool b, _ => beq_self_eq_true b
  | .int i, _ => beq_self_eq_true i
  | .str x, _ => beq_self_eq_true x
  | .list xs, h => eqvRA xs h
  | .tuple xs, h => eqvRA xs h
  | .dict _, h => by cases h
theorem eqvRA : ∀ ds : List PyData, PyData.canLayAll0 ds = true → PyData.eqvAll ds ds = true
  | [], _ => rfl
  | d :: ds, h => by
    have h' : (PyData.canLay0 d && PyData.canLayAll0 ds) = true := h
    obtain ⟨h1, h2⟩ := Bool.and_eq_true_iff.mp h'
    show (PyData.eqv d d && PyData.eqvAll ds ds) = true
    rw [eqvR d h1, eqvRA ds h2]
    rfl
end
theorem layAll {ds : List PyData} (h : ∀ d ∈ ds, d.canLay0 = true ∧ d.depth ≤ 60) : PyData.canLayAll0 ds = true ∧ PyData.depthAll ds ≤ 60 := by
  induction ds with
  | nil => exact ⟨rfl, Nat.zero_le _⟩
  | cons d ds ih =>
    obtain ⟨i1, i2⟩ := ih fun e he => h e (List.mem_cons_of_mem _ he)
    obtain ⟨h1, h2⟩ := h d (List.mem_cons_self ..)
    refine ⟨?_, ?_⟩
    · show (PyData.canLay0 d && PyData.canLayAll0 ds) = true
      rw [h1, i1]
      rfl
    · show max (PyData.depth d) (PyData.depthAll ds) ≤ 60
      exact Nat.max_le.mpr ⟨h2, i2⟩
theorem shapedL {ds : List PyData} (h : ∀ d ∈ ds, d.canLay0 = true ∧ d.depth ≤ 60) : SeqAt.shaped (.list ds) = true := by
  obtain ⟨h1, h2⟩ := layAll h
  show (PyData.canLayAll0 ds && decide (PyData.depthAll ds + 1 ≤ 64)) = true
  rw [h1, decide_eq_true (by omega)]
  rfl
/-- a list of things that are told by data -/
theorem dpAll {K : PySem.W.Frag} {H : Hp} {α : Type} {f : α → V} {g : α → PyData} {l : List α} (h : ∀ a ∈ l, Dp K H (f a) (g a)) : DpAll K H (l.map f) (l.map g) := by
  induction l with
  | nil => exact .nil
  | cons a l ih => exact .cons (h a (List.mem_cons_self ..)) (ih fun b hb => h b (List.mem_cons_of_mem _ hb))
theorem dpAllP {K : PySem.W.Frag} {H : Hp} {α β : Type} {R : α → β → Prop} {f : α → V} {g : β → PyData} {l : List α} {m : List β} (p : Paired R l m) (h : ∀ a b, R a b → Dp K H (f a) (g b)) : DpAll K H (l.map f) (m.map g) := by
  induction p with
  | nil => exact .nil
  | cons r t ih => exact .cons (h _ _ r) ih
/-- the same data twice: neither != -/
theorem neSame {K : PySem.W.Frag} {x y : V} {ds : List PyData} {H : Hp} {Q : VK} (h : ∀ d ∈ ds, d.canLay0 = true ∧ d.depth ≤ 60) (hx : Dp K H x (.list ds)) (hy : Dp K H y (.list ds)) (q : Q (.bl false) H) : rNeO K x y H Q := by
  have hs := shapedL h
  refine neDt (b := true) hx hy hs hs (eqvR _ ?_) q
  exact (layAll h).1
def dS (e : Str × Int) : PyData := .str e.1
def dT3 (e : (Str × Str) × Int) : PyData := .tuple [.str e.1.1, .str e.1.2, .int e.2]
def dP2 (e : Str × Int) : PyData := .tuple [.str e.1, .int e.2]
theorem dT3_ok {e : (Str × Str) × Int} (h1 : PyData.strOk e.1.1 = true) (h2 : PyData.strOk e.1.2 = true) : (dT3 e).canLay0 = true ∧ (dT3 e).depth ≤ 60 := by
  refine ⟨?_, by show 1 ≤ 60; decide⟩
  show (PyData.strOk e.1.1 && (PyData.strOk e.1.2 && (true && true))) = true
  rw [h1, h2]
  rfl
theorem dP2_ok {e : Str × Int} (h1 : PyData.strOk e.1 = true) : (dP2 e).canLay0 = true ∧ (dP2 e).depth ≤ 60 := by
  refine ⟨?_, by show 1 ≤ 60; decide⟩
  show (PyData.strOk e.1 && (true && true)) = true
  rw [h1]
  rfl
theorem eqvT {ds : List PyData} (h : ∀ d ∈ ds, d.canLay0 = true ∧ d.depth ≤ 59) : PyData.eqv (.tuple ds) (.tuple ds) = true ∧ SeqAt.shaped (.tuple ds) = true := by
  obtain ⟨h1, h2⟩ := layAll fun d hd => ⟨(h d hd).1, Nat.le_trans (h d hd).2 (by decide)⟩
  refine ⟨eqvRA ds h1, ?_⟩
  show (PyData.canLayAll0 ds && decide (PyData.depthAll ds + 1 ≤ 64)) = true
  rw [h1, decide_eq_true (by omega)]
  rfl
theorem atI_last {α : Type} {vs : List α} {v : α} : atI (vs ++ [v]) (-1) = some v := by
  unfold atI ixN
  rw [if_neg (by decide), List.length_append, List.length_singleton, if_pos (by omega), Option.bind_some, show (-1 + ((vs.length + 1 : Nat) : Int)).toNat = vs.length by omega]
  simp

theorem BadT.same {K H H' nm n v} (h : BadT K H nm n v) (s : Same H H') : BadT K H' nm n v := by
  cases h with
  | kind h e => exact .kind (h.mono s) e
  | len h e => exact .len (s _ _ h) e
  | odd h e => exact .odd (s _ _ h) e
  | miss h hz e => exact .miss (s _ _ h) hz e
  | val h hl hz e ht hw ho => exact .val (s _ _ h) hl hz e (ht.mono s) hw ho
theorem AskB.same {K H H' x wp wq W} (h : AskB K H x wp wq W) (s : Same H H') : AskB K H' x wp wq W := ⟨h.web.same s, h.hl, h.nd⟩
theorem GoodT.same {H H' nm n c kv} (h : GoodT H nm n c kv) (s : Same H H') : GoodT H' nm n c kv := by
  obtain ⟨cd, e, h, k⟩ := h
  exact ⟨cd, e, s _ _ h, k⟩
theorem trues : ∀ {l : List Str}, (l.map V.str).filterMap (fun _ => some (V.bl true)) = (l.map fun _ => true).map V.bl
  | [] => rfl
  | a :: l => by
    show V.bl true :: (l.map V.str).filterMap (fun _ => some (V.bl true)) = V.bl true :: (l.map fun _ => true).map V.bl
    rw [trues]
theorem CutOk.len {nm kv n} (h : CutOk nm kv n) : kv.length = nm.length := by
  have := h.pm.length_eq
  rwa [List.length_map] at this
theorem getA_valB {α : Type} [DecidableEq α] {l : List (α × Int)} {i : Nat} {e : α × Int} (nd : (l.map Prod.fst).Nodup) (he : l[i]? = some e) : getA l e.1 = some e.2 := by
  unfold getA
  cases hf : List.find? (fun p => decide (p.1 = e.1)) l with
  | none => exact absurd (List.find?_eq_none.mp hf e (List.mem_of_getElem? he)) (by simp)
  | some z =>
    obtain ⟨j, hj, ej⟩ := List.getElem_of_mem (List.mem_of_find?_eq_some hf)
    have hz0 := List.find?_some hf
    have hz : z.1 = e.1 := of_decide_eq_true hz0
    have hji : j = i := (List.getElem?_inj (by rw [List.length_map]; exact hj) nd).mp (by rw [List.getElem?_map, List.getElem?_map, he, List.getElem?_eq_getElem hj, ej]; exact congrArg some hz)
    subst hji
    rw [List.getElem?_eq_getElem hj, ej] at he
    cases he
    rfl
theorem CutOk.get {nm kv n} (h : CutOk nm kv n) {z : Str} (hz : z ∈ nm) : ∃ w, getA kv z = some w ∧ 0 ≤ w ∧ w < n := by
  have hm := h.pm.mem_iff.mpr hz
  obtain ⟨e, he, rfl⟩ := List.mem_map.mp hm
  obtain ⟨i, hi, ei⟩ := List.getElem_of_mem he
  have hn : (kv.map Prod.fst).Nodup := h.pm.nodup_iff.mpr h.nd
  exact ⟨e.2, getA_valB hn (by rw [List.getElem?_eq_getElem hi, ei]), h.rg e he⟩
theorem bools {f : Str → Bool} : ∀ {l : List Str}, (l.map V.str).filterMap (fun v => match v with | .str z => some (V.bl (f z)) | _ => none) = (l.map f).map V.bl
  | [] => rfl
  | a :: l => by
    show V.bl (f a) :: (l.map V.str).filterMap _ = V.bl (f a) :: (l.map f).map V.bl
    rw [bools]
/-- the names asked: are all there? -/
theorem all_in {K : PySem.W.Frag} {l : Addr} {nm : List Str} {c : V} (f : Str → Bool) {σ : L2.St} {H1 : Hp} {Q : VK} (hl : H1 l = some (.lst (nm.map V.str))) (hn : nm.length ≤ 60) (h4 : σ.length = 5) (h2 : σ[2]? = some (some c))
    (hi : ∀ z ∈ nm, ∀ H, Same H1 H → ∀ R : VK, R (.bl (f z)) H → rInU K (.str z) c H R)
    (k : ∀ D H2, Same H1 H2 → H2 D = some (.lst ((nm.map f).map V.bl)) → Q (.ref D) H2) :
    lcU (Itl K l) (gName 4) tYes (tOp (rInU K) (tV 4) (tV 2)) [4] σ H1 Q := by
  refine lcL (fun v => match v with | .str z => some (V.bl (f z)) | _ => none) (SqL.of hl) (by rw [List.length_map, sizeLine_eq]; omega) (fun v H2 hv s2 R R' r r' => ?_) (fun D H2 hD s2 => ?_)
  · obtain ⟨z, hz, rfl⟩ := List.mem_map.mp hv
    obtain ⟨a0, a1, a2, a3, a4, rfl⟩ : ∃ a0 a1 a2 a3 a4, σ = [a0, a1, a2, a3, a4] := by
      match σ, h4 with
      | [a0, a1, a2, a3, a4], _ => exact ⟨_, _, _, _, _, rfl⟩
    cases h2
    refine ⟨rfl, ?_⟩
    ((try (conv => whnf)); repeat (first | (refine cndT rfl ?_; (try (conv => whnf))) | (refine cndF rfl ?_; (try (conv => whnf)))))
    exact hi z hz _ s2 _ (r _ _ (Same.refl _) rfl)
  · rw [bools] at hD
    exact k D H2 s2 hD
theorem all_map_id {l : List Str} {f : Str → Bool} : (l.map f).all id = l.all f := by
  rw [List.all_map]
  rfl
theorem inD {K : PySem.W.Frag} {x : V} {d : Addr} {o : Option V} {H : Hp} {Q : VK} (hx : ∀ i, x = .str i → True) (g : DGet H d x o) (q : Q (.bl o.isSome) H) : rInU K x (.ref d) H Q := by
  unfold rInU
  split
  · rename_i h
    cases h
  · exact .inr (.inl ⟨d, o, rfl, g, q⟩)
theorem inOddN {K : PySem.W.Frag} {z : Str} {d : Addr} {m : Nat} {H : Hp} {Q : VK} (h : H d = some (oddO d (m + 1) true)) (q : Q (.bl false) H) : rInU K (.str z) (.ref d) H Q := by
  unfold rInU
  exact .inr (.inr (.inr ⟨d, m, z, rfl, rfl, h, q⟩))
theorem pure_fault_of {K a b c H Q E} (h : P_fault_of K a b c H Q E) : t_fault_of K E { nx := fun _ H' => Q .non H', rt := Q } [some a, some b, some c, none, none] H := by
  obtain ⟨x, wp, wq, W, n, rfl, ask, rfl, hc⟩ := h
  obtain ⟨hw, hl, nd⟩ := ask
  obtain ⟨dx, ho⟩ := hw.o
  ((try (conv => whnf)); repeat (first | (refine cndT rfl ?_; (try (conv => whnf))) | (refine cndF rfl ?_; (try (conv => whnf)))))
  refine ⟨x, dx, _, rfl, ho, webF_n (by decide +kernel) (by decide +kernel), ?_⟩
  ((try (conv => whnf)); repeat (first | (refine cndT rfl ?_; (try (conv => whnf))) | (refine cndF rfl ?_; (try (conv => whnf)))))
  refine ⟨x, wp, wq, W, rfl, hw, fun l H1 nl s1 e1 => ?_⟩
  have e1' : H1 l = some (.lst ((W.hv.map Prod.fst).map V.str)) := by rw [e1, List.map_map]; rfl
  have hln : (W.hv.map Prod.fst).length ≤ 60 := by rw [List.length_map]; exact hl
  clear e1
  generalize W.hv.map Prod.fst = nm at hc nd e1' hln
  -- a form that is none
  have form : (∃ kv, GoodT H nm n c kv ∧ ∀ H', Same H H' → Q .non H') ∨ (BadT K H nm n c ∧ ∀ T H', Same H H' → Q (.ref T) H') := hc
  rcases hc with ⟨kv, ⟨cd, rfl, hcd, ck⟩, k⟩ | ⟨bad, k⟩
  · have hcd1 := s1 _ _ hcd
    ((try (conv => whnf)); repeat (first | (refine cndT rfl ?_; (try (conv => whnf))) | (refine cndF rfl ?_; (try (conv => whnf)))))
    refine isiN (t := "dict") (b := true) (TyN.dK hcd1) (by decide +kernel) ?_
    ((try (conv => whnf)); repeat (first | (refine cndT rfl ?_; (try (conv => whnf))) | (refine cndF rfl ?_; (try (conv => whnf)))))
    refine .inr (.inr (.inl ⟨_, hcd1, ?_⟩))
    rw [emb_len]
    ((try (conv => whnf)); repeat (first | (refine cndT rfl ?_; (try (conv => whnf))) | (refine cndF rfl ?_; (try (conv => whnf)))))
    left
    refine ⟨_, SqL.of e1', ?_⟩
    rw [List.length_map, ck.len]
    ((try (conv => whnf)); repeat (first | (refine cndT rfl ?_; (try (conv => whnf))) | (refine cndF rfl ?_; (try (conv => whnf)))))
    refine cndF (by rw [decide_eq_true rfl]; rfl) ?_
    ((try (conv => whnf)); repeat (first | (refine cndT rfl ?_; (try (conv => whnf))) | (refine cndF rfl ?_; (try (conv => whnf)))))
    left
    ((try (conv => whnf)); repeat (first | (refine cndT rfl ?_; (try (conv => whnf))) | (refine cndF rfl ?_; (try (conv => whnf)))))
    refine .inl ⟨_, SqL.of e1', ?_⟩
    refine all_in (fun _ => true) e1' hln rfl rfl (fun z hz H2 s2 R r => ?_) (fun D H2 s2 eD => ?_)
    · obtain ⟨w, hg, _⟩ := ck.get hz
      have g := DGet.k (k := kS z) (s2 _ _ hcd1)
      rw [emb_val kS_inj, hg] at g
      exact inD (fun _ _ => trivial) g r
    refine ⟨D, _, rfl, SqL.of eD, ?_⟩
    rw [show (nm.map fun _ => true).all id = true by simp]
    ((try (conv => whnf)); repeat (first | (refine cndT rfl ?_; (try (conv => whnf))) | (refine cndF rfl ?_; (try (conv => whnf)))))
    have e2 := s2 _ _ e1'
    have hcd2 := s2 _ _ hcd1
    left
    ((try (conv => whnf)); repeat (first | (refine cndT rfl ?_; (try (conv => whnf))) | (refine cndF rfl ?_; (try (conv => whnf)))))
    refine .inl ⟨_, SqL.of e2, ?_⟩
    refine forL (SqL.of e2) (fun i σ H' => Same H2 H' ∧ ∃ v4 : Option V, σ = [some (.ref x), some (.int n), some (.ref cd), some (.ref l), v4]) ⟨Same.refl _, _, rfl⟩ ?_ ?_ ?_
    · rintro i σ H' _ ⟨sx, _⟩
      exact SqL.of (sx _ _ e2)
    · rintro i y σ H3 hy ⟨sx, v4, rfl⟩
      rw [List.getElem?_map] at hy
      obtain ⟨z, hz, rfl⟩ := Option.map_eq_some_iff.mp hy
      obtain ⟨w, hg, w0, w1⟩ := ck.get (List.mem_of_getElem? hz)
      have g := DGet.k (k := kS z) (sx _ _ hcd2)
      rw [emb_val kS_inj, hg] at g
      ((try (conv => whnf)); repeat (first | (refine cndT rfl ?_; (try (conv => whnf))) | (refine cndF rfl ?_; (try (conv => whnf)))))
      refine ixD g ?_
      ((try (conv => whnf)); repeat (first | (refine cndT rfl ?_; (try (conv => whnf))) | (refine cndF rfl ?_; (try (conv => whnf)))))
      refine ⟨"int", 0, n - 1, rfl, rfl, rfl, ?_⟩
      have e : wholeV (.int w) 0 (n - 1) = true := by simp [wholeV]; omega
      rw [e]
      ((try (conv => whnf)); repeat (first | (refine cndT rfl ?_; (try (conv => whnf))) | (refine cndF rfl ?_; (try (conv => whnf)))))
      exact ⟨sx, _, rfl⟩
    · rintro σ H3 ⟨sx, v4, rfl⟩
      ((try (conv => whnf)); repeat (first | (refine cndT rfl ?_; (try (conv => whnf))) | (refine cndF rfl ?_; (try (conv => whnf)))))
      exact k H3 ((s1.trans s2).trans sx)
  · have bad1 := bad.same s1
    clear bad form
    cases bad1 with
    | @kind _ t h e =>
      ((try (conv => whnf)); repeat (first | (refine cndT rfl ?_; (try (conv => whnf))) | (refine cndF rfl ?_; (try (conv => whnf)))))
      refine isiN h e ?_
      ((try (conv => whnf)); repeat (first | (refine cndT rfl ?_; (try (conv => whnf))) | (refine cndF rfl ?_; (try (conv => whnf)))))
      refine ⟨by show 1 ≤ sizeLine; decide, ?_⟩
      (intro T nT; generalize hG : _root_.L2.upd _ T _ = H2; have s2 := sameOf nT hG; have e2 := atOf hG; clear hG; ((try (conv => whnf)); repeat (first | (refine cndT rfl ?_; (try (conv => whnf))) | (refine cndF rfl ?_; (try (conv => whnf))))))
      exact k T H2 (s1.trans s2)
    | @len d kvs h e =>
      ((try (conv => whnf)); repeat (first | (refine cndT rfl ?_; (try (conv => whnf))) | (refine cndF rfl ?_; (try (conv => whnf)))))
      refine isiN (t := "dict") (b := true) (TyN.dK h) (by decide +kernel) ?_
      ((try (conv => whnf)); repeat (first | (refine cndT rfl ?_; (try (conv => whnf))) | (refine cndF rfl ?_; (try (conv => whnf)))))
      refine .inr (.inr (.inl ⟨_, h, ?_⟩))
      ((try (conv => whnf)); repeat (first | (refine cndT rfl ?_; (try (conv => whnf))) | (refine cndF rfl ?_; (try (conv => whnf)))))
      left
      refine ⟨_, SqL.of e1', ?_⟩
      rw [List.length_map]
      ((try (conv => whnf)); repeat (first | (refine cndT rfl ?_; (try (conv => whnf))) | (refine cndF rfl ?_; (try (conv => whnf)))))
      refine cndT (by rw [decide_eq_false (by omega)]; rfl) ?_
      ((try (conv => whnf)); repeat (first | (refine cndT rfl ?_; (try (conv => whnf))) | (refine cndF rfl ?_; (try (conv => whnf)))))
      refine ⟨by show 1 ≤ sizeLine; decide, ?_⟩
      (intro T nT; generalize hG : _root_.L2.upd _ T _ = H2; have s2 := sameOf nT hG; have e2 := atOf hG; clear hG; ((try (conv => whnf)); repeat (first | (refine cndT rfl ?_; (try (conv => whnf))) | (refine cndF rfl ?_; (try (conv => whnf))))))
      exact k T H2 (s1.trans s2)
    | @odd d m nn h e =>
      ((try (conv => whnf)); repeat (first | (refine cndT rfl ?_; (try (conv => whnf))) | (refine cndF rfl ?_; (try (conv => whnf)))))
      refine isiN (t := "dict") (b := true) (TyN.odd h) (by decide +kernel) ?_
      ((try (conv => whnf)); repeat (first | (refine cndT rfl ?_; (try (conv => whnf))) | (refine cndF rfl ?_; (try (conv => whnf)))))
      refine .inr (.inr (.inr (.inr ⟨_, _, h, ?_⟩)))
      ((try (conv => whnf)); repeat (first | (refine cndT rfl ?_; (try (conv => whnf))) | (refine cndF rfl ?_; (try (conv => whnf)))))
      left
      refine ⟨_, SqL.of e1', ?_⟩
      rw [List.length_map]
      ((try (conv => whnf)); repeat (first | (refine cndT rfl ?_; (try (conv => whnf))) | (refine cndF rfl ?_; (try (conv => whnf)))))
      refine cndB (fun cc => ?_) (fun cc => ?_)
      · ((try (conv => whnf)); repeat (first | (refine cndT rfl ?_; (try (conv => whnf))) | (refine cndF rfl ?_; (try (conv => whnf)))))
        refine ⟨by show 1 ≤ sizeLine; decide, ?_⟩
        (intro T nT; generalize hG : _root_.L2.upd _ T _ = H2; have s2 := sameOf nT hG; have e2 := atOf hG; clear hG; ((try (conv => whnf)); repeat (first | (refine cndT rfl ?_; (try (conv => whnf))) | (refine cndF rfl ?_; (try (conv => whnf))))))
        exact k T H2 (s1.trans s2)
      · have em : m = nm.length := by
          have em' : ((m : Nat) : Int) = (nm.length : Nat) := by simpa using cc
          omega
        obtain ⟨rfl, rfl⟩ := e.resolve_left (fun z => z em)
        ((try (conv => whnf)); repeat (first | (refine cndT rfl ?_; (try (conv => whnf))) | (refine cndF rfl ?_; (try (conv => whnf)))))
        left
        ((try (conv => whnf)); repeat (first | (refine cndT rfl ?_; (try (conv => whnf))) | (refine cndF rfl ?_; (try (conv => whnf)))))
        refine .inl ⟨_, SqL.of e1', ?_⟩
        refine all_in (fun _ => false) e1' hln rfl rfl (fun z hz H2 s2 R r => inOddN (m := 0) (s2 _ _ h) r) (fun D H2 s2 eD => ?_)
        refine ⟨D, _, rfl, SqL.of eD, ?_⟩
        have : (nm.map fun _ => false).all id = false := by
          cases nm with
          | nil => cases em
          | cons z nm => rfl
        rw [this]
        ((try (conv => whnf)); repeat (first | (refine cndT rfl ?_; (try (conv => whnf))) | (refine cndF rfl ?_; (try (conv => whnf)))))
        refine ⟨by show 1 ≤ sizeLine; decide, ?_⟩
        (intro T nT; generalize hG : _root_.L2.upd _ T _ = H3; have s3 := sameOf nT hG; have e3 := atOf hG; clear hG; ((try (conv => whnf)); repeat (first | (refine cndT rfl ?_; (try (conv => whnf))) | (refine cndF rfl ?_; (try (conv => whnf))))))
        exact k T H3 ((s1.trans s2).trans s3)
    | @miss d kvs z h hz e =>
      ((try (conv => whnf)); repeat (first | (refine cndT rfl ?_; (try (conv => whnf))) | (refine cndF rfl ?_; (try (conv => whnf)))))
      refine isiN (t := "dict") (b := true) (TyN.dK h) (by decide +kernel) ?_
      ((try (conv => whnf)); repeat (first | (refine cndT rfl ?_; (try (conv => whnf))) | (refine cndF rfl ?_; (try (conv => whnf)))))
      refine .inr (.inr (.inl ⟨_, h, ?_⟩))
      ((try (conv => whnf)); repeat (first | (refine cndT rfl ?_; (try (conv => whnf))) | (refine cndF rfl ?_; (try (conv => whnf)))))
      left
      refine ⟨_, SqL.of e1', ?_⟩
      rw [List.length_map]
      ((try (conv => whnf)); repeat (first | (refine cndT rfl ?_; (try (conv => whnf))) | (refine cndF rfl ?_; (try (conv => whnf)))))
      refine cndB (fun cc => ?_) (fun cc => ?_)
      · ((try (conv => whnf)); repeat (first | (refine cndT rfl ?_; (try (conv => whnf))) | (refine cndF rfl ?_; (try (conv => whnf)))))
        refine ⟨by show 1 ≤ sizeLine; decide, ?_⟩
        (intro T nT; generalize hG : _root_.L2.upd _ T _ = H2; have s2 := sameOf nT hG; have e2 := atOf hG; clear hG; ((try (conv => whnf)); repeat (first | (refine cndT rfl ?_; (try (conv => whnf))) | (refine cndF rfl ?_; (try (conv => whnf))))))
        exact k T H2 (s1.trans s2)
      · ((try (conv => whnf)); repeat (first | (refine cndT rfl ?_; (try (conv => whnf))) | (refine cndF rfl ?_; (try (conv => whnf)))))
        left
        ((try (conv => whnf)); repeat (first | (refine cndT rfl ?_; (try (conv => whnf))) | (refine cndF rfl ?_; (try (conv => whnf)))))
        refine .inl ⟨_, SqL.of e1', ?_⟩
        refine all_in (fun z => (valV kvs (kS z)).isSome) e1' hln rfl rfl (fun z hz H2 s2 R r => inD (fun _ _ => trivial) (DGet.k (k := kS z) (s2 _ _ h)) r) (fun D H2 s2 eD => ?_)
        refine ⟨D, _, rfl, SqL.of eD, ?_⟩
        have : (nm.map fun z => (valV kvs (kS z)).isSome).all id = false := by
          rw [all_map_id, List.all_eq_false]
          exact ⟨z, hz, by rw [e]; simp⟩
        rw [this]
        ((try (conv => whnf)); repeat (first | (refine cndT rfl ?_; (try (conv => whnf))) | (refine cndF rfl ?_; (try (conv => whnf)))))
        refine ⟨by show 1 ≤ sizeLine; decide, ?_⟩
        (intro T nT; generalize hG : _root_.L2.upd _ T _ = H3; have s3 := sameOf nT hG; have e3 := atOf hG; clear hG; ((try (conv => whnf)); repeat (first | (refine cndT rfl ?_; (try (conv => whnf))) | (refine cndF rfl ?_; (try (conv => whnf))))))
        exact k T H3 ((s1.trans s2).trans s3)
    | @val d kvs z u t h hle hz e ht hwh ho =>
      ((try (conv => whnf)); repeat (first | (refine cndT rfl ?_; (try (conv => whnf))) | (refine cndF rfl ?_; (try (conv => whnf)))))
      refine isiN (t := "dict") (b := true) (TyN.dK h) (by decide +kernel) ?_
      ((try (conv => whnf)); repeat (first | (refine cndT rfl ?_; (try (conv => whnf))) | (refine cndF rfl ?_; (try (conv => whnf)))))
      refine .inr (.inr (.inl ⟨_, h, ?_⟩))
      ((try (conv => whnf)); repeat (first | (refine cndT rfl ?_; (try (conv => whnf))) | (refine cndF rfl ?_; (try (conv => whnf)))))
      left
      refine ⟨_, SqL.of e1', ?_⟩
      rw [List.length_map, hle]
      ((try (conv => whnf)); repeat (first | (refine cndT rfl ?_; (try (conv => whnf))) | (refine cndF rfl ?_; (try (conv => whnf)))))
      refine cndF (by rw [decide_eq_true rfl]; rfl) ?_
      ((try (conv => whnf)); repeat (first | (refine cndT rfl ?_; (try (conv => whnf))) | (refine cndF rfl ?_; (try (conv => whnf)))))
      left
      ((try (conv => whnf)); repeat (first | (refine cndT rfl ?_; (try (conv => whnf))) | (refine cndF rfl ?_; (try (conv => whnf)))))
      refine .inl ⟨_, SqL.of e1', ?_⟩
      refine all_in (fun z => (valV kvs (kS z)).isSome) e1' hln rfl rfl (fun z hz H2 s2 R r => inD (fun _ _ => trivial) (DGet.k (k := kS z) (s2 _ _ h)) r) (fun D H2 s2 eD => ?_)
      refine ⟨D, _, rfl, SqL.of eD, ?_⟩
      have : (nm.map fun z => (valV kvs (kS z)).isSome).all id = true := by
        rw [all_map_id, List.all_eq_true]
        intro y hy
        by_cases c : y = z
        · rw [c, e]; rfl
        · obtain ⟨w, hw, _⟩ := ho y hy c
          rw [hw]; rfl
      rw [this]
      ((try (conv => whnf)); repeat (first | (refine cndT rfl ?_; (try (conv => whnf))) | (refine cndF rfl ?_; (try (conv => whnf)))))
      have e2 := s2 _ _ e1'
      have h2 := s2 _ _ h
      left
      ((try (conv => whnf)); repeat (first | (refine cndT rfl ?_; (try (conv => whnf))) | (refine cndF rfl ?_; (try (conv => whnf)))))
      refine .inl ⟨_, SqL.of e2, ?_⟩
      refine forL (SqL.of e2) (fun i σ H' => Same H2 H' ∧ z ∉ nm.take i ∧ ∃ v4 : Option V, σ = [some (.ref x), some (.int n), some (.ref d), some (.ref l), v4]) ⟨Same.refl _, by simp, _, rfl⟩ ?_ ?_ ?_
      · rintro i σ H' _ ⟨sx, _⟩
        exact SqL.of (sx _ _ e2)
      · rintro i y σ H3 hy ⟨sx, hni, v4, rfl⟩
        rw [List.getElem?_map] at hy
        obtain ⟨y, hy', rfl⟩ := Option.map_eq_some_iff.mp hy
        clear hy
        have hy := hy'
        have g := DGet.k (k := kS y) (sx _ _ h2)
        ((try (conv => whnf)); repeat (first | (refine cndT rfl ?_; (try (conv => whnf))) | (refine cndF rfl ?_; (try (conv => whnf)))))
        by_cases c : y = z
        · subst c
          rw [e] at g
          refine ixD g ?_
          ((try (conv => whnf)); repeat (first | (refine cndT rfl ?_; (try (conv => whnf))) | (refine cndF rfl ?_; (try (conv => whnf)))))
          refine ⟨t, 0, n - 1, (ht.mono s2).mono sx, rfl, rfl, ?_⟩
          rw [hwh]
          ((try (conv => whnf)); repeat (first | (refine cndT rfl ?_; (try (conv => whnf))) | (refine cndF rfl ?_; (try (conv => whnf)))))
          refine ⟨by show 2 ≤ sizeLine; decide, ?_⟩
          (intro T nT; generalize hG : _root_.L2.upd _ T _ = H4; have s4 := sameOf nT hG; have e4 := atOf hG; clear hG; ((try (conv => whnf)); repeat (first | (refine cndT rfl ?_; (try (conv => whnf))) | (refine cndF rfl ?_; (try (conv => whnf))))))
          exact k T H4 (((s1.trans s2).trans sx).trans s4)
        · obtain ⟨w, hw, w0, w1⟩ := ho y (List.mem_of_getElem? hy) c
          rw [hw] at g
          refine ixD g ?_
          ((try (conv => whnf)); repeat (first | (refine cndT rfl ?_; (try (conv => whnf))) | (refine cndF rfl ?_; (try (conv => whnf)))))
          refine ⟨"int", 0, n - 1, rfl, rfl, rfl, ?_⟩
          have e' : wholeV (.int w) 0 (n - 1) = true := by simp [wholeV]; omega
          rw [e']
          ((try (conv => whnf)); repeat (first | (refine cndT rfl ?_; (try (conv => whnf))) | (refine cndF rfl ?_; (try (conv => whnf)))))
          refine ⟨sx, ?_, _, rfl⟩
          rw [List.take_add_one, hy]
          intro hm
          rcases List.mem_append.mp hm with hm | hm
          · exact hni hm
          · exact c (List.mem_singleton.mp hm).symm
      · rintro σ H3 ⟨sx, hni, v4, rfl⟩
        rw [List.length_map, List.take_of_length_le (Nat.le_refl _)] at hni
        exact absurd hz hni
theorem pure_need_cutting {K a b c H Q E} (h : P_need_cutting K a b c H Q E) : t_need_cutting K E { nx := fun _ H' => Q .non H', rt := Q } [some a, some b, some c] H := by
  obtain ⟨x, wp, wq, W, n, rfl, ask, rfl, hc⟩ := h
  ((try (conv => whnf)); repeat (first | (refine cndT rfl ?_; (try (conv => whnf))) | (refine cndF rfl ?_; (try (conv => whnf)))))
  refine ⟨x, wp, wq, W, n, rfl, ask, rfl, ?_⟩
  rcases hc with ⟨kv, g, k⟩ | ⟨ek, bad, k⟩
  · refine .inl ⟨kv, g, fun H1 s1 => ?_⟩
    ((try (conv => whnf)); repeat (first | (refine cndT rfl ?_; (try (conv => whnf))) | (refine cndF rfl ?_; (try (conv => whnf)))))
    refine ⟨rfl, ?_⟩
    ((try (conv => whnf)); repeat (first | (refine cndT rfl ?_; (try (conv => whnf))) | (refine cndF rfl ?_; (try (conv => whnf)))))
    exact k H1 s1
  · refine .inr ⟨bad, fun T H1 s1 => ?_⟩
    ((try (conv => whnf)); repeat (first | (refine cndT rfl ?_; (try (conv => whnf))) | (refine cndF rfl ?_; (try (conv => whnf)))))
    refine ⟨rfl, ?_⟩
    ((try (conv => whnf)); repeat (first | (refine cndT rfl ?_; (try (conv => whnf))) | (refine cndF rfl ?_; (try (conv => whnf)))))
    exact rz1 ek (c := "NoCutting") (by decide +kernel) (fun _ _ _ _ _ h => h) (k H1 s1)

end Wk27
namespace Wk27
open PySem L2 PySem.Spec PyProof.Rows Rf
theorem pure_l_cell {K a b H Q E} (h : P_l_cell K a b H Q E) : t_l_cell K E { nx := fun _ H' => Q .non H', rt := Q } [some a, some b] H := by
  obtain ⟨s, ns, k, rfl, hs, hl, rfl, k0, q⟩ := h
  ((try (conv => whnf)); repeat (first | (refine cndT rfl ?_; (try (conv => whnf))) | (refine cndF rfl ?_; (try (conv => whnf)))))
  left
  refine ⟨_, hs, ?_⟩
  rw [List.length_map]
  ((try (conv => whnf)); repeat (first | (refine cndT rfl ?_; (try (conv => whnf))) | (refine cndF rfl ?_; (try (conv => whnf)))))
  (refine cndB (fun c1 => ?_) (fun c1 => ?_) <;> (try simp only [Bool.not_eq_eq_eq_not, Bool.not_true, Bool.not_false, decide_eq_true_eq, decide_eq_false_iff_not, Int.not_le, Int.not_lt] at c1) <;> ((try (conv => whnf)); repeat (first | (refine cndT rfl ?_; (try (conv => whnf))) | (refine cndF rfl ?_; (try (conv => whnf))))))
  · refine ixIn hs k0 (by rw [List.length_map]; exact c1) fun v hv => ?_
    obtain ⟨i, _, rfl⟩ := List.mem_map.mp hv
    exact q i
  · exact q _
theorem prG {H : Hp} {p : Addr} {x y z : Int} (h : H p = some (.dK (prD x y z))) : DGet H p (.str "left") (some (.int x)) ∧ DGet H p (.str "seed") (some (.int y)) ∧ DGet H p (.str "at") (some (.int z)) := by
  refine ⟨DGet.k (k := Sum.inr "left") h, DGet.k (k := Sum.inr "seed") h, DGet.k (k := Sum.inr "at") h⟩
theorem pure_l_purse {K a H Q E} (h : P_l_purse K a H Q E) : t_l_purse K E { nx := fun _ H' => Q .non H', rt := Q } [some a] H := by
  obtain ⟨c, rfl, q⟩ := h
  ((try (conv => whnf)); repeat (first | (refine cndT rfl ?_; (try (conv => whnf))) | (refine cndF rfl ?_; (try (conv => whnf)))))
  intro p np
  generalize hG : L2.upd _ p _ = H1
  have s1 := sameOf np hG
  have e1 := atOf hG
  clear hG
  ((try (conv => whnf)); repeat (first | (refine cndT rfl ?_; (try (conv => whnf))) | (refine cndF rfl ?_; (try (conv => whnf)))))
  refine ⟨⟨by decide, by decide, by decide⟩, ?_⟩
  ((try (conv => whnf)); repeat (first | (refine cndT rfl ?_; (try (conv => whnf))) | (refine cndF rfl ?_; (try (conv => whnf)))))
  refine ⟨by decide, ?_⟩
  ((try (conv => whnf)); repeat (first | (refine cndT rfl ?_; (try (conv => whnf))) | (refine cndF rfl ?_; (try (conv => whnf)))))
  refine ⟨e1, [(Sum.inr "left", _), (Sum.inr "seed", _), (Sum.inr "at", _)], rfl, by show 3 ≤ 15; decide, ?_⟩
  (generalize hG : _root_.L2.upd _ p _ = H2; have b2 := butOf hG; have e2 := atOf hG; clear hG; ((try (conv => whnf)); repeat (first | (refine cndT rfl ?_; (try (conv => whnf))) | (refine cndF rfl ?_; (try (conv => whnf))))))
  refine q p H2 np (fun b o e => b2.at (s1 _ _ e) (ne_n (some_ne e) np)) ⟨_, _, _, ?_, e2⟩
  generalize (10 : Int) ^ Int.toNat 18 = z
  split <;> omega

end Wk27
namespace Wk27
open PySem L2 PySem.Spec PyProof.Rows Rf
theorem pure_l_take {K a b H Q E} (h : P_l_take K a b H Q E) : t_l_take K E { nx := fun _ H' => Q .non H', rt := Q } [some a, some b, none, none] H := by
  obtain ⟨p, m, rfl, ⟨x, y, z, x0, hp⟩, rfl, m1, m2, q⟩ := h
  ((try (conv => whnf)); repeat (first | (refine cndT rfl ?_; (try (conv => whnf))) | (refine cndF rfl ?_; (try (conv => whnf)))))
  refine ixD (prG hp).1 ?_
  ((try (conv => whnf)); repeat (first | (refine cndT rfl ?_; (try (conv => whnf))) | (refine cndF rfl ?_; (try (conv => whnf)))))
  (refine cndB (fun c1 => ?_) (fun c1 => ?_) <;> (try simp only [Bool.not_eq_eq_eq_not, Bool.not_true, Bool.not_false, decide_eq_true_eq, decide_eq_false_iff_not, Int.not_le, Int.not_lt] at c1) <;> ((try (conv => whnf)); repeat (first | (refine cndT rfl ?_; (try (conv => whnf))) | (refine cndF rfl ?_; (try (conv => whnf))))))
  · refine ixD (prG hp).1 ?_
    ((try (conv => whnf)); repeat (first | (refine cndT rfl ?_; (try (conv => whnf))) | (refine cndF rfl ?_; (try (conv => whnf)))))
    refine ⟨by omega, ?_⟩
    ((try (conv => whnf)); repeat (first | (refine cndT rfl ?_; (try (conv => whnf))) | (refine cndF rfl ?_; (try (conv => whnf)))))
    refine ixD (prG hp).1 ?_
    ((try (conv => whnf)); repeat (first | (refine cndT rfl ?_; (try (conv => whnf))) | (refine cndF rfl ?_; (try (conv => whnf)))))
    refine ⟨divS (by omega) (by omega), ?_⟩
    ((try (conv => whnf)); repeat (first | (refine cndT rfl ?_; (try (conv => whnf))) | (refine cndF rfl ?_; (try (conv => whnf)))))
    refine setD rfl (DPut.k (k := Sum.inr "left") hp (by show 3 < sizeLine; decide)) ?_
    (generalize hG : _root_.L2.upd _ p _ = G; have b := butOf hG; have e := atOf hG; clear hG; ((try (conv => whnf)); repeat (first | (refine cndT rfl ?_; (try (conv => whnf))) | (refine cndF rfl ?_; (try (conv => whnf))))))
    replace e : G p = some (.dK (prD (x / m) y z)) := e
    exact q _ G (Int.emod_nonneg _ (by omega)) (Int.emod_lt_of_pos _ (by omega)) b ⟨x / m, y, z, Int.ediv_nonneg x0 (by omega), e⟩
  · refine ixD (prG hp).2.2 ?_
    ((try (conv => whnf)); repeat (first | (refine cndT rfl ?_; (try (conv => whnf))) | (refine cndF rfl ?_; (try (conv => whnf)))))
    refine setD rfl (DPut.k (k := Sum.inr "at") hp (by show 3 < sizeLine; decide)) ?_
    (generalize hG : _root_.L2.upd _ p _ = G; have b := butOf hG; have e := atOf hG; clear hG; ((try (conv => whnf)); repeat (first | (refine cndT rfl ?_; (try (conv => whnf))) | (refine cndF rfl ?_; (try (conv => whnf))))))
    replace e : G p = some (.dK (prD x y (z + 1))) := e
    refine ixD (prG e).2.1 ?_
    ((try (conv => whnf)); repeat (first | (refine cndT rfl ?_; (try (conv => whnf))) | (refine cndF rfl ?_; (try (conv => whnf)))))
    refine ixD (prG e).2.2 ?_
    ((try (conv => whnf)); repeat (first | (refine cndT rfl ?_; (try (conv => whnf))) | (refine cndF rfl ?_; (try (conv => whnf)))))
    refine ⟨mulL (by decide), ?_⟩
    ((try (conv => whnf)); repeat (first | (refine cndT rfl ?_; (try (conv => whnf))) | (refine cndF rfl ?_; (try (conv => whnf)))))
    refine ⟨mulR (by decide), ?_⟩
    ((try (conv => whnf)); repeat (first | (refine cndT rfl ?_; (try (conv => whnf))) | (refine cndF rfl ?_; (try (conv => whnf)))))
    refine ⟨by decide, ?_⟩
    ((try (conv => whnf)); repeat (first | (refine cndT rfl ?_; (try (conv => whnf))) | (refine cndF rfl ?_; (try (conv => whnf)))))
    have n0 := Int.emod_nonneg ((y + 7919 * (z + 1)) * 48271) (show (2147483647 : Int) ≠ 0 by decide)
    have n1 := Int.emod_lt_of_pos ((y + 7919 * (z + 1)) * 48271) (show (0 : Int) < 2147483647 by decide)
    generalize (y + 7919 * (z + 1)) * 48271 % 2147483647 = u at n0 n1 ⊢
    refine ⟨mulL (by omega), ?_⟩
    ((try (conv => whnf)); repeat (first | (refine cndT rfl ?_; (try (conv => whnf))) | (refine cndF rfl ?_; (try (conv => whnf)))))
    refine ⟨by decide, ?_⟩
    ((try (conv => whnf)); repeat (first | (refine cndT rfl ?_; (try (conv => whnf))) | (refine cndF rfl ?_; (try (conv => whnf)))))
    have n2 := Int.emod_nonneg (u * u) (show (2147483629 : Int) ≠ 0 by decide)
    have n3 := Int.emod_lt_of_pos (u * u) (show (0 : Int) < 2147483629 by decide)
    generalize u * u % 2147483629 = v at n2 n3 ⊢
    refine ixD (prG e).2.2 ?_
    ((try (conv => whnf)); repeat (first | (refine cndT rfl ?_; (try (conv => whnf))) | (refine cndF rfl ?_; (try (conv => whnf)))))
    refine ⟨mulL (by omega), ?_⟩
    ((try (conv => whnf)); repeat (first | (refine cndT rfl ?_; (try (conv => whnf))) | (refine cndF rfl ?_; (try (conv => whnf)))))
    refine ⟨by decide, ?_⟩
    ((try (conv => whnf)); repeat (first | (refine cndT rfl ?_; (try (conv => whnf))) | (refine cndF rfl ?_; (try (conv => whnf)))))
    have n4 := Int.emod_nonneg ((v + 104729) * (v + (z + 1))) (show (2147483587 : Int) ≠ 0 by decide)
    have n5 := Int.emod_lt_of_pos ((v + 104729) * (v + (z + 1))) (show (0 : Int) < 2147483587 by decide)
    generalize (v + 104729) * (v + (z + 1)) % 2147483587 = r at n4 n5 ⊢
    refine ⟨mulL (by omega), ?_⟩
    ((try (conv => whnf)); repeat (first | (refine cndT rfl ?_; (try (conv => whnf))) | (refine cndF rfl ?_; (try (conv => whnf)))))
    refine ⟨by decide, ?_⟩
    ((try (conv => whnf)); repeat (first | (refine cndT rfl ?_; (try (conv => whnf))) | (refine cndF rfl ?_; (try (conv => whnf)))))
    refine ⟨divS (by decide) (by decide), ?_⟩
    ((try (conv => whnf)); repeat (first | (refine cndT rfl ?_; (try (conv => whnf))) | (refine cndF rfl ?_; (try (conv => whnf)))))
    refine ⟨by omega, ?_⟩
    exact q _ G (Int.emod_nonneg _ (by omega)) (Int.emod_lt_of_pos _ (by omega)) b ⟨x, y, z + 1, x0, e⟩

end Wk27
namespace Wk27
open PySem L2 PySem.Spec PyProof.Rows Rf
/-- small letters, n at most -/
structure Alp (z : Str) (n : Nat) : Prop where
  len : z.length ≤ n
  all : ∀ c ∈ z.cps.toList, 97 ≤ c ∧ c ≤ 122
theorem Alp.cut {z : Str} {n : Nat} {lo hi : Option Int} (h : Alp z n) : Alp (cutS z lo hi) n := by
  refine ⟨Nat.le_trans (len_cut z lo hi) h.len, fun c hc => h.all c ?_⟩
  unfold cutS at hc
  have hc' : c ∈ (z.cps.toList.drop (HT.sIx z.length 0 lo)).take (HT.sIx z.length z.length hi - HT.sIx z.length 0 lo) := by simpa using hc
  exact List.mem_of_mem_drop (List.mem_of_mem_take hc')
theorem Kx.new {S : List Addr} {H H' : Hp} {D : Addr} {o : HO} (k : Kx S H H') (n : H D = none) : Kx S H (L2.upd H' D o) := fun b u hb e => by
  rw [upd_ne (ne_n (some_ne e) n)]
  exact k b u hb e
theorem Kx.none {S : List Addr} {H H' : Hp} {D : Addr} (k : Kx S H H') (n : H' D = none) (h : ∀ b ∈ S, H' b ≠ none) : H D = none := by
  cases e : H D with
  | none => rfl
  | some o =>
    by_cases c : D ∈ S
    · exact absurd n (h D c)
    · have := k D o c e
      rw [n] at this
      cases this
theorem sum_len1 {ys : List Str} (h : ∀ y ∈ ys, Alp y 1) : (ys.map (·.length)).sum ≤ ys.length := by
  induction ys with
  | nil => simp
  | cons y r ih =>
    have h1 := (h y (List.mem_cons_self ..)).len
    have h2 := ih fun z hz => h z (List.mem_cons_of_mem _ hz)
    rw [List.map_cons, List.sum_cons, List.length_cons]
    omega
theorem Alp.app {a b : Str} {n m : Nat} (h : Alp a n) (h2 : Alp b m) : Alp (a ++ b) (n + m) := by
  refine ⟨?_, fun c hc => ?_⟩
  · have := h.len
    have := h2.len
    rw [len_app]
    omega
  · rw [cps_app] at hc
    rcases List.mem_append.mp hc with hc | hc
    · exact h.all c hc
    · exact h2.all c hc
theorem fold_mem {r : List Str} : ∀ {a : Array Nat}, (r.foldl (fun acc p => acc ++ ("" : Str).cps ++ p.cps) a).toList = a.toList ++ (r.map fun p => p.cps.toList).flatten := by
  induction r with
  | nil => intro a; simp
  | cons p r ih =>
    intro a
    rw [List.foldl_cons, ih]
    have e : ("" : Str).cps = #[] := by decide +kernel
    rw [e]
    simp
theorem join_cps (ys : List Str) : (Txt.join "" ys).cps.toList = (ys.map fun p => p.cps.toList).flatten := by
  cases ys with
  | nil => decide +kernel
  | cons y r =>
    show (r.foldl _ y.cps).toList = _
    rw [fold_mem]
    rfl
theorem Alp.join {ys : List Str} (h : ∀ y ∈ ys, Alp y 1) : Alp (Txt.join "" ys) ys.length := by
  refine ⟨?_, fun c hc => ?_⟩
  · rw [← str_len, join_cps]
    induction ys with
    | nil => simp
    | cons y r ih =>
      have h1 := (h y (List.mem_cons_self ..)).len
      have h2 := ih fun z hz => h z (List.mem_cons_of_mem _ hz)
      rw [List.map_cons, List.flatten_cons, List.length_append, str_len, List.length_cons]
      omega
  · rw [join_cps] at hc
    obtain ⟨l, hl, hcl⟩ := List.mem_flatten.mp hc
    obtain ⟨y, hy, rfl⟩ := List.mem_map.mp hl
    exact (h y hy).all c hcl
theorem Alp.one {c : Nat} (h : 97 ≤ c) (h2 : c ≤ 122) : Alp ⟨#[c]⟩ 1 := ⟨Nat.le_refl _, fun d hd => by
  have : d = c := by simpa using hd
  rw [this]; exact ⟨h, h2⟩⟩
theorem letter (d : Int) (d0 : 0 ≤ d) (d1 : d < 26) : atI (Str.ofString "abcdefghijklmnopqrstuvwxyz").cps.toList d = some (97 + d.toNat) := by
  obtain ⟨j, rfl⟩ : ∃ j : Nat, d = j := ⟨d.toNat, by omega⟩
  rw [show (Str.ofString "abcdefghijklmnopqrstuvwxyz").cps.toList = List.range' 97 26 by decide +kernel]
  refine atI_nat ?_
  rw [List.getElem?_range' (by omega), Nat.one_mul, Int.toNat_natCast]
theorem nek {H : Hp} {a b : Addr} {o u : HO} (h1 : H a = some o) (h2 : H b = some u) (n : o ≠ u) : a ≠ b := fun e => n (Option.some.inj (h1.symm.trans (e ▸ h2)))
theorem getA_key {α : Type} [DecidableEq α] {l : List (α × Int)} {k : α} (h : k ∉ l.map Prod.fst) : getA l k = none := by
  unfold getA
  rw [List.find?_eq_none.mpr fun p hp => ?_]
  · rfl
  · intro z
    exact h (List.mem_map.mpr ⟨p, hp, of_decide_eq_true z⟩)
theorem paired_same {H H' : Hp} {ts : List Addr} {l : List ((Str × Str) × Int)} (p : Paired (isTie H) ts l) (k : ∀ t o, H t = some (.tup o) → H' t = some (.tup o)) : Paired (isTie H') ts l := by
  induction p with
  | nil => exact .nil
  | cons r _ ih => exact .cons (k _ _ r) ih
theorem refs_inj : ∀ {l m : List Addr}, l.map V.ref = m.map V.ref → l = m
  | [], [], _ => rfl
  | [], _ :: _, h => by cases h
  | _ :: _, [], h => by cases h
  | a :: l, b :: m, h => by
    obtain ⟨h1, h2⟩ := List.cons.inj h
    rw [V.ref.inj h1, refs_inj h2]
theorem WebO.setH {K H H' x p q W hv} (h : WebO K H x p q W) (kx : Kx [p] H H') (e : H' p = some (.dK (emb kS hv))) : WebO K H' x p q ⟨hv, W.kn⟩ := by
  obtain ⟨dx, ho⟩ := h.o
  have n1 : x ≠ p := fun z => by rw [z, h.hv] at ho; cases ho
  have n2 : q ≠ p := fun z => by have y := h.kn; rw [z, h.hv] at y; cases y
  exact ⟨h.k, ⟨dx, kx _ _ (by simp [n1]) ho⟩, e, kx _ _ (by simp [n2]) h.kn⟩
theorem WebO.setK {K H H' x p q W kn} (h : WebO K H x p q W) (kx : Kx [q] H H') (e : H' q = some (.dT (emb kP kn))) : WebO K H' x p q ⟨W.hv, kn⟩ := by
  obtain ⟨dx, ho⟩ := h.o
  have n1 : x ≠ q := fun z => by rw [z, h.kn] at ho; cases ho
  have n2 : p ≠ q := fun z => by have y := h.hv; rw [z, h.kn] at y; cases y
  exact ⟨h.k, ⟨dx, kx _ _ (by simp [n1]) ho⟩, kx _ _ (by simp [n2]) h.hv, e⟩
theorem Kx.fresh {S : List Addr} {H H' H2 : Hp} {w : Addr} (k : Kx S H H') (k2 : Kx [w] H' H2) (n : H w = Option.none) : Kx S H H2 := fun b o hb e => k2 b o (by simp; exact ne_n (some_ne e) n) (k b o hb e)
theorem fresh_take {l : List (Str × Int)} {nm : List Str} {i : Nat} {z : Str} (hnd : nm.Nodup) (hz : nm[i]? = some z) (hk : l.map Prod.fst = nm.take i) : getA l z = none := getA_key fun hm => by
  rw [hk] at hm
  obtain ⟨j, hj, ej⟩ := List.getElem_of_mem hm
  rw [List.length_take] at hj
  rw [List.getElem_take] at ej
  have h1 : nm[j]? = some z := by rw [List.getElem?_eq_getElem (by omega), ej]
  have := (List.getElem?_inj (by omega) hnd).mp (h1.trans hz.symm)
  omega
theorem sum_leA {α : Type} {l : List (α × Int)} {M : Int} (h : ∀ e ∈ l, e.2 ≤ M) : (l.map Prod.snd).sum ≤ l.length * M := by
  induction l with
  | nil => simp
  | cons e l ih =>
    have h1 := h e (List.mem_cons_self ..)
    have h2 := ih fun b hb => h b (List.mem_cons_of_mem _ hb)
    rw [List.map_cons, List.sum_cons, List.length_cons]
    have : ((l.length + 1 : Nat) : Int) * M = l.length * M + M := by push_cast; rw [Int.add_mul, Int.one_mul]
    omega
theorem getA_val' {α : Type} [DecidableEq α] {l : List (α × Int)} {i : Nat} {e : α × Int} (nd : (l.map Prod.fst).Nodup) (he : l[i]? = some e) : getA l e.1 = some e.2 := by
  unfold getA
  cases hf : List.find? (fun p => decide (p.1 = e.1)) l with
  | none => exact absurd (List.find?_eq_none.mp hf e (List.mem_of_getElem? he)) (by simp)
  | some z =>
    obtain ⟨j, hj, ej⟩ := List.getElem_of_mem (List.mem_of_find?_eq_some hf)
    have hz0 := List.find?_some hf
    have hz : z.1 = e.1 := of_decide_eq_true hz0
    have hji : j = i := (List.getElem?_inj (by rw [List.length_map]; exact hj) nd).mp (by rw [List.getElem?_map, List.getElem?_map, he, List.getElem?_eq_getElem hj, ej]; exact congrArg some hz)
    subst hji
    rw [List.getElem?_eq_getElem hj, ej] at he
    cases he
    rfl
theorem flip_mem {l m : List ((Str × Str) × Int)} (h : Paired Flip l m) {f : (Str × Str) × Int} (hf : f ∈ m) : ∃ (i : Nat) (e : (Str × Str) × Int), l[i]? = some e ∧ Flip e f := by
  induction h with
  | nil => cases hf
  | cons r _ ih =>
    rcases List.mem_cons.mp hf with z | z
    · rw [z]
      exact ⟨0, _, rfl, r⟩
    · obtain ⟨i, e, he, fl⟩ := ih z
      exact ⟨i + 1, e, he, fl⟩
theorem flip_sum {l m : List ((Str × Str) × Int)} (h : Paired Flip l m) : (m.map Prod.snd).sum = (l.map Prod.snd).sum := by
  induction h with
  | nil => rfl
  | cons r _ ih =>
    rw [List.map_cons, List.map_cons, List.sum_cons, List.sum_cons, ih]
    rcases r with r | r <;> rw [r]
theorem getA_memK {α : Type} [DecidableEq α] {l : List (α × Int)} {k : α} (h : (getA l k).isSome = true) : ∃ e ∈ l, e.1 = k := by
  unfold getA at h
  cases hf : List.find? (fun p => decide (p.1 = k)) l with
  | none => rw [hf] at h; cases h
  | some z =>
    have hz0 := List.find?_some hf
    exact ⟨z, List.mem_of_find?_eq_some hf, of_decide_eq_true hz0⟩
theorem perm_erase {α : Type} {l : List α} {k : Nat} {x : α} (h : l[k]? = some x) : l.Perm (x :: l.eraseIdx k) := by
  induction l generalizing k with
  | nil => simp at h
  | cons a l ih =>
    cases k with
    | zero =>
      cases h
      exact List.Perm.refl _
    | succ k =>
      exact ((ih h).cons a).trans (List.Perm.swap _ _ _)
theorem seqIx {k n : Nat} (h : k < n) : seqIndex? (k : Int) n = some k := by
  unfold seqIndex?
  have h0 : ¬ (k : Int) < 0 := by omega
  simp [h0, h]
theorem erase_map {α β : Type} {f : α → β} : ∀ {l : List α} {k : Nat}, (l.map f).eraseIdx k = (l.eraseIdx k).map f
  | [], _ => rfl
  | _ :: _, 0 => rfl
  | a :: l, k + 1 => by
    show f a :: (l.map f).eraseIdx k = f a :: (l.eraseIdx k).map f
    rw [erase_map]
theorem nameS_strOk {z : Str} (h : nameS z = true) : PyData.strOk z = true := by
  unfold nameS at h
  obtain ⟨_, h2⟩ := Bool.and_eq_true_iff.mp h
  rw [List.all_eq_true] at h2
  unfold PyData.strOk
  rw [← Array.all_toList, List.all_eq_true]
  intro c hc
  have := h2 c hc
  simp only [Bool.and_eq_true, decide_eq_true_eq] at this
  exact decide_eq_true (by omega)

end Wk27
namespace Wk27
open PySem L2 PySem.Spec PyProof.Rows Rf
theorem PrO.upd {H : Hp} {p D : Addr} {o : HO} (h : PrO H p) (n : p ≠ D) : PrO (L2.upd H D o) p := by
  obtain ⟨x, y, z, x0, e⟩ := h
  exact ⟨x, y, z, x0, by rw [upd_ne n]; exact e⟩
theorem PrO.same {H H' : Hp} {p : Addr} (h : PrO H p) (s : Same H H') : PrO H' p := by
  obtain ⟨x, y, z, x0, e⟩ := h
  exact ⟨x, y, z, x0, s _ _ e⟩
theorem PrO.ne {H : Hp} {p : Addr} (h : PrO H p) : H p ≠ Option.none := by
  obtain ⟨_, _, _, _, e⟩ := h
  exact some_ne e
theorem PrO.but {H H' : Hp} {p q : Addr} (h : PrO H p) (b : But q H H') (n : p ≠ q) : PrO H' p := by
  obtain ⟨x, y, z, x0, e⟩ := h
  exact ⟨x, y, z, x0, b.at e n⟩
/-- what is no purse stays, when the purse is drawn of -/
def prB (o : HO) : Prop := ∀ x y z, o ≠ .dK (prD x y z)
theorem Kx.pr {H H' : Hp} {p b : Addr} {o : HO} (hp : PrO H p) (k : Kx [p] H H') (e : H b = some o) (n : prB o) : H' b = some o := by
  obtain ⟨x, y, z, _, ep⟩ := hp
  exact k b o (by simp; exact nek e ep (n x y z)) e
theorem prB_lst {xs : List V} : prB (.lst xs) := fun _ _ _ e => by cases e
theorem prB_tup {xs : List V} : prB (.tup xs) := fun _ _ _ e => by cases e
theorem prB_ins {C dx : Addr} {fs : List (Str × V)} : prB (.ins C dx fs) := fun _ _ _ e => by cases e
theorem prB_dT {kn : List (List Key × V)} : prB (.dT kn) := fun _ _ _ e => by cases e
theorem sameKx {H0 H H' : Hp} {p : Addr} (s : Same H0 H) (n : H0 p = Option.none) (k : Kx [p] H H') : Same H0 H' := fun b o e => k b o (by simp; exact ne_n (some_ne e) n) (s _ _ e)
theorem four {H4 : Hp} {a b c d : Int} {v : V} (hv : v ∈ [V.int a, V.int b, V.int c, V.int d]) : v = .int a ∨ v = .int b ∨ v = .int c ∨ v = .int d := by
  simpa using hv
theorem pure_l_size {K a b c H Q E} (h : P_l_size K a b c H Q E) : t_l_size K E { nx := fun _ H' => Q .non H', rt := Q } [some a, some b, some c, none] H := by
  obtain ⟨p, k, m, rfl, hp, rfl, k0, k1, rfl, m0, m1, q⟩ := h
  ((try (conv => whnf)); repeat (first | (refine cndT rfl ?_; (try (conv => whnf))) | (refine cndF rfl ?_; (try (conv => whnf)))))
  refine ⟨p, 9, rfl, hp, rfl, by decide, by decide, fun d1 H1 a0 a1 b1 h1 => ?_⟩
  ((try (conv => whnf)); repeat (first | (refine cndT rfl ?_; (try (conv => whnf))) | (refine cndF rfl ?_; (try (conv => whnf)))))
  refine ⟨p, 1000, rfl, h1, rfl, by decide, by decide, fun d2 H2 a2 a3 b2 h2 => ?_⟩
  ((try (conv => whnf)); repeat (first | (refine cndT rfl ?_; (try (conv => whnf))) | (refine cndF rfl ?_; (try (conv => whnf)))))
  refine ⟨p, m, rfl, h2, rfl, by omega, by omega, fun d3 H3 a4 a5 b3 h3 => ?_⟩
  ((try (conv => whnf)); repeat (first | (refine cndT rfl ?_; (try (conv => whnf))) | (refine cndF rfl ?_; (try (conv => whnf)))))
  refine ⟨by show 4 ≤ sizeLine; decide, ?_⟩
  (intro l nl; generalize hG : _root_.L2.upd _ l _ = H4; have s4 := sameOf nl hG; have e4 := atOf hG; clear hG; ((try (conv => whnf)); repeat (first | (refine cndT rfl ?_; (try (conv => whnf))) | (refine cndF rfl ?_; (try (conv => whnf))))))
  refine ixIn (SqL.of e4) k0 (by show k < 4; exact k1) fun v hv => ?_
  have kx : Kx [p] H H4 := (((Kx.but b1 (by simp)).trans (.but b2 (by simp))).trans (.but b3 (by simp))).trans (.same s4)
  rcases four (H4 := H4) hv with rfl | rfl | rfl | rfl
  · exact q _ H4 (by omega) (by omega) kx (h3.same s4)
  · exact q _ H4 (by omega) (by omega) kx (h3.same s4)
  · exact q _ H4 (by omega) (by omega) kx (h3.same s4)
  · exact q _ H4 (by omega) (by omega) kx (h3.same s4)

end Wk27
namespace Wk27
open PySem L2 PySem.Spec PyProof.Rows Rf
def tail_names (K : PySem.W.Frag) (E : XK) : TS :=
  (tSeq (tAsg (tLst tNil) (gName 6))
  (tSeq (forS [(false, iRng1 (tCons (tV 1) tNil))] (gName 7) (tSeq (tAsg (tOp (rIxU K) (tV 2) (tOp rModU (tOp (rAddU K) (tV 4) (tOp rMulU (tC (.int 7)) (tV 7))) (tC (.int 26)))) (gName 8))
  (tSeq (tAsg (tOp (rAddU K) (tV 8) (tOp (rIxU K) (tV 2) (tOp rModU (tOp (rAddU K) (tOp (rAddU K) (tV 4) (tV 5)) (tOp rDivU (tV 7) (tC (.int 26)))) (tC (.int 26))))) (gName 8))
  (tDrop (tBM K "list" rAppend (tV 6) (tCons (tOp (rAddU K) (tV 8) (tSl (rSlU K) (tV 3) tNoPart (tPart (tOp rModU (tOp (rAddU K) (tOp rMulU (tV 7) (tV 7)) (tV 5)) (tC (.int 7)))))) tNil))))))
  (tRet (tV 6))))
theorem cut_len {z : Str} {m : Nat} (h : m ≤ z.length) : (cutS z none (some (m : Int))).length = m := by
  unfold cutS
  show ((z.cps.toList.drop (HT.sIx z.length 0 none)).take (HT.sIx z.length z.length (some (m : Int)) - HT.sIx z.length 0 none)).toArray.size = m
  rw [HT.sIx_nat]
  have e0 : HT.sIx z.length 0 none = 0 := rfl
  rw [e0, List.size_toArray, List.length_take, List.length_drop, Array.length_toList]
  have : z.cps.size = z.length := rfl
  omega
theorem str_nameS {z : Str} (h1 : 1 ≤ z.length) (h : Alp z 8) : nameS z = true := by
  unfold nameS
  rw [decide_eq_true h1, decide_eq_true h.len, Bool.true_and, Bool.true_and, List.all_eq_true]
  intro c hc
  obtain ⟨a, b⟩ := h.all c hc
  simp [a, b]
/-- the k-th name begins with two letters told by the number -/
def HeadK (f s : Int) (k : Nat) (z : Str) : Prop := Alp z 8 ∧ 2 ≤ z.length ∧ ∃ suf, z.cps.toList = (97 + ((f + 7 * (k : Int)) % 26).toNat) :: (97 + ((f + s + (k : Int) / 26) % 26).toNat) :: suf
theorem HeadK.inj {f s : Int} {i j : Nat} {z : Str} (hi : i < 60) (hj : j < 60) (h : HeadK f s i z) (h2 : HeadK f s j z) : i = j := by
  obtain ⟨_, _, p1, e1⟩ := h
  obtain ⟨_, _, p2, e2⟩ := h2
  rw [e1] at e2
  obtain ⟨a, b⟩ := List.cons.inj e2
  obtain ⟨b, _⟩ := List.cons.inj b
  omega
theorem nodup_of_inj {α : Type} {l : List α} (h : ∀ (i j : Nat) (z : α), i < j → l[i]? = some z → l[j]? = some z → False) : l.Nodup := by
  rw [List.nodup_iff_pairwise_ne, List.pairwise_iff_getElem]
  intro a b ha hb hab e
  exact h a b l[a] hab (List.getElem?_eq_getElem ha) (by rw [e]; exact List.getElem?_eq_getElem hb)
theorem pure_l_names {K a b H Q E} (h : P_l_names K a b H Q E) : t_l_names K E { nx := fun _ H' => Q .non H', rt := Q } [some a, some b, none, none, none, none, none, none, none] H := by
  obtain ⟨p, n, rfl, hp, rfl, hn, q⟩ := h
  ((try (conv => whnf)); repeat (first | (refine cndT rfl ?_; (try (conv => whnf))) | (refine cndF rfl ?_; (try (conv => whnf)))))
  refine ⟨rfl, ?_⟩
  ((try (conv => whnf)); repeat (first | (refine cndT rfl ?_; (try (conv => whnf))) | (refine cndF rfl ?_; (try (conv => whnf)))))
  refine ⟨8, rfl, by decide, by decide, ?_⟩
  have np : H p ≠ none := hp.ne
  refine lcIt walk_range fun D hD => ⟨fun i Hh => Kx [p] H Hh ∧ PrO Hh p ∧ ∃ acc : List Str, Hh D = some (.lst (acc.map V.str)) ∧ acc.length = i ∧ ∀ z ∈ acc, Alp z 1 ∧ z.length = 1, ⟨Kx.same (Same.new (Same.refl _) hD), hp.upd (ne_n np hD), [], upd_same, rfl, fun z hz => by cases hz⟩, fun _ _ _ _ => trivial, fun i x H2 H3 hi hpv y => ?_, fun H2 hpv => ?_⟩
  · obtain ⟨kx, hpu, acc, hacc, hal, hac⟩ := hpv
    obtain ⟨rfl, rfl⟩ := y
    have hi8 : i < 8 := hi
    refine ⟨rfl, ?_⟩
    ((try (conv => whnf)); repeat (first | (refine cndT rfl ?_; (try (conv => whnf))) | (refine cndF rfl ?_; (try (conv => whnf)))))
    refine ⟨p, 26, rfl, hpu, rfl, by decide, by decide, fun d H4 d0 d1 b4 h4 => ?_⟩
    have nDp : D ≠ p := (ne_n np hD).symm
    have hacc4 := b4.at hacc nDp
    ((try (conv => whnf)); repeat (first | (refine cndT rfl ?_; (try (conv => whnf))) | (refine cndF rfl ?_; (try (conv => whnf)))))
    refine ixS (by decide +kernel) (letter d d0 d1) ?_
    refine ⟨_, hacc4, by rw [List.length_map, sizeLine_eq]; omega, (kx.trans (.but b4 (by simp))).new hD, h4.upd nDp.symm, acc ++ [⟨#[97 + d.toNat]⟩], ?_, by rw [List.length_append, hal]; rfl, fun z hz => ?_⟩
    · rw [upd_same, List.map_append]
      rfl
    · rcases List.mem_append.mp hz with hz | hz
      · exact hac z hz
      · rw [List.mem_singleton.mp hz]
        exact ⟨Alp.one (by omega) (by omega), rfl⟩
  · obtain ⟨kx, hpu, acc, hacc, hal, hac⟩ := hpv
    have hal8 : acc.length = 8 := hal
    ((try (conv => whnf)); repeat (first | (refine cndT rfl ?_; (try (conv => whnf))) | (refine cndF rfl ?_; (try (conv => whnf)))))
    unfold rJoinU
    refine ⟨"", D, acc, rfl, rfl, .inl (SqL.of hacc), ?_, ?_⟩
    · have := sum_len1 fun z hz => (hac z hz).1
      rw [hal8] at this ⊢
      have e : ("" : Str).length = 0 := by decide +kernel
      rw [e]
      omega
    have hw := Alp.join fun z hz => (hac z hz).1
    have hwl : (Txt.join "" acc).length = 8 := by
      rw [← str_len, join_cps]
      have : ∀ l : List Str, (∀ z ∈ l, z.length = 1) → ((l.map fun p => p.cps.toList).flatten).length = l.length := by
        intro l
        induction l with
        | nil => intro _; rfl
        | cons z l ih =>
          intro hz
          rw [List.map_cons, List.flatten_cons, List.length_append, str_len, hz z (List.mem_cons_self ..), ih fun y hy => hz y (List.mem_cons_of_mem _ hy), List.length_cons]
          omega
      rw [this acc fun z hz => (hac z hz).2, hal8]
    rw [hal8] at hw
    generalize Txt.join "" acc = base at hw hwl ⊢
    ((try (conv => whnf)); repeat (first | (refine cndT rfl ?_; (try (conv => whnf))) | (refine cndF rfl ?_; (try (conv => whnf)))))
    refine ⟨p, 26, rfl, hpu, rfl, by decide, by decide, fun f H4 f0 f1 b4 h4 => ?_⟩
    ((try (conv => whnf)); repeat (first | (refine cndT rfl ?_; (try (conv => whnf))) | (refine cndF rfl ?_; (try (conv => whnf)))))
    refine ⟨p, 7, rfl, h4, rfl, by decide, by decide, fun s H5 g0 g1 b5 h5 => ?_⟩
    have kx5 := (kx.trans (.but b4 (by simp))).trans (Kx.but (S := [p]) b5 (by simp))
    ((try (conv => whnf)); repeat (first | (refine cndT rfl ?_; (try (conv => whnf))) | (refine cndF rfl ?_; (try (conv => whnf)))))
    have tail : ∀ H6, Kx [p] H H6 → PrO H6 p → tail_names K E { nx := fun _ H' => Q .non H', rt := Q } [some (.ref p), some (.int n), some (.str "abcdefghijklmnopqrstuvwxyz"), some (.str base), some (.int f), some (.int s), none, none, none] H6 := by
      intro H6 kx6 h6
      ((try (conv => whnf)); repeat (first | (refine cndT rfl ?_; (try (conv => whnf))) | (refine cndF rfl ?_; (try (conv => whnf)))))
      refine ⟨by show 0 ≤ sizeLine; decide, ?_⟩
      intro l nl
      have nlH := kx6.none nl (fun b hb => by rw [List.mem_singleton.mp hb]; exact h6.ne)
      have nlp : p ≠ l := ne_n h6.ne nl
      generalize hG : L2.upd _ l _ = H7
      have e7 := atOf hG
      have kx7 : Kx [p] H H7 := hG ▸ kx6.new nlH
      have h7 : PrO H7 p := hG ▸ h6.upd nlp
      clear hG
      ((try (conv => whnf)); repeat (first | (refine cndT rfl ?_; (try (conv => whnf))) | (refine cndF rfl ?_; (try (conv => whnf)))))
      refine ⟨_, rfl, by omega, by omega, ?_⟩
      refine forR (fun i σ H' => Kx [p] H H' ∧ PrO H' p ∧ (∃ acc : List Str, H' l = some (.lst (acc.map V.str)) ∧ acc.length = i ∧ ∀ (j : Nat) (z : Str), acc[j]? = some z → HeadK f s j z) ∧ ∃ v7 v8 : Option V, σ = [some (.ref p), some (.int n), some (.str "abcdefghijklmnopqrstuvwxyz"), some (.str base), some (.int f), some (.int s), some (.ref l), v7, v8]) ⟨kx7, h7, ⟨[], e7, rfl, fun j z hj => by simp at hj⟩, _, _, rfl⟩ ?_ ?_
      · rintro i σ H8 hi ⟨kx8, h8, ⟨acc, hacc, hal, hnm⟩, v7, v8, rfl⟩
        have hi' : i < n := by simpa using hi
        rw [Int.zero_add]
        ((try (conv => whnf)); repeat (first | (refine cndT rfl ?_; (try (conv => whnf))) | (refine cndF rfl ?_; (try (conv => whnf)))))
        refine ⟨mulL (by decide), ?_⟩
        ((try (conv => whnf)); repeat (first | (refine cndT rfl ?_; (try (conv => whnf))) | (refine cndF rfl ?_; (try (conv => whnf)))))
        refine ⟨by decide, ?_⟩
        ((try (conv => whnf)); repeat (first | (refine cndT rfl ?_; (try (conv => whnf))) | (refine cndF rfl ?_; (try (conv => whnf)))))
        refine ixS (by decide +kernel) (letter ((f + 7 * (i : Int)) % 26) (by omega) (by omega)) ?_
        ((try (conv => whnf)); repeat (first | (refine cndT rfl ?_; (try (conv => whnf))) | (refine cndF rfl ?_; (try (conv => whnf)))))
        refine ⟨divS (by decide) (by decide), ?_⟩
        ((try (conv => whnf)); repeat (first | (refine cndT rfl ?_; (try (conv => whnf))) | (refine cndF rfl ?_; (try (conv => whnf)))))
        refine ⟨by decide, ?_⟩
        ((try (conv => whnf)); repeat (first | (refine cndT rfl ?_; (try (conv => whnf))) | (refine cndF rfl ?_; (try (conv => whnf)))))
        refine ixS (by decide +kernel) (letter ((f + s + (i : Int) / 26) % 26) (by omega) (by omega)) ?_
        have one1 : ∀ c : Nat, (⟨#[c]⟩ : Str).length = 1 := fun _ => rfl
        ((try (conv => whnf)); repeat (first | (refine cndT rfl ?_; (try (conv => whnf))) | (refine cndF rfl ?_; (try (conv => whnf)))))
        refine ⟨by rw [one1, one1, sizeLine_eq]; omega, ?_⟩
        ((try (conv => whnf)); repeat (first | (refine cndT rfl ?_; (try (conv => whnf))) | (refine cndF rfl ?_; (try (conv => whnf)))))
        refine ⟨.inl ⟨rfl, _, SqL.of hacc⟩, ?_⟩
        ((try (conv => whnf)); repeat (first | (refine cndT rfl ?_; (try (conv => whnf))) | (refine cndF rfl ?_; (try (conv => whnf)))))
        refine ⟨mulL (by omega), ?_⟩
        ((try (conv => whnf)); repeat (first | (refine cndT rfl ?_; (try (conv => whnf))) | (refine cndF rfl ?_; (try (conv => whnf)))))
        refine ⟨by decide, ?_⟩
        ((try (conv => whnf)); repeat (first | (refine cndT rfl ?_; (try (conv => whnf))) | (refine cndF rfl ?_; (try (conv => whnf)))))
        have m0 : 0 ≤ ((i : Int) * i + s) % 7 := Int.emod_nonneg _ (by decide)
        have m1 : ((i : Int) * i + s) % 7 < 7 := Int.emod_lt_of_pos _ (by decide)
        generalize ((i : Int) * i + s) % 7 = m at m0 m1 ⊢
        obtain ⟨m, rfl⟩ : ∃ j : Nat, m = j := ⟨m.toNat, by omega⟩
        refine ⟨_, rfl, slS (by have := hw.len; rw [sizeLine_eq]; omega) ?_⟩
        have ha : Alp (cutS base none (some (m : Int))) 8 := hw.cut
        have hal' : (cutS base none (some (m : Int))).length = m := cut_len (by rw [hwl]; omega)
        generalize cutS base none (some (m : Int)) = suf at ha hal' ⊢
        have two : ((⟨#[97 + ((f + 7 * (i : Int)) % 26).toNat]⟩ : Str) ++ ⟨#[97 + ((f + s + (i : Int) / 26) % 26).toNat]⟩).length = 2 := by rw [len_app, one1, one1]
        ((try (conv => whnf)); repeat (first | (refine cndT rfl ?_; (try (conv => whnf))) | (refine cndF rfl ?_; (try (conv => whnf)))))
        refine ⟨by rw [two, sizeLine_eq]; omega, ?_⟩
        ((try (conv => whnf)); repeat (first | (refine cndT rfl ?_; (try (conv => whnf))) | (refine cndF rfl ?_; (try (conv => whnf)))))
        refine ⟨l, _, _, rfl, rfl, hacc, by rw [List.length_map, sizeLine_eq]; omega, ?_⟩
        have a6 : Alp suf 6 := ⟨by omega, ha.all⟩
        have hk : HeadK f s i (((⟨#[97 + ((f + 7 * (i : Int)) % 26).toNat]⟩ : Str) ++ ⟨#[97 + ((f + s + (i : Int) / 26) % 26).toNat]⟩) ++ suf) := by
          refine ⟨((Alp.one (by omega) (by omega)).app (Alp.one (by omega) (by omega))).app a6, by rw [len_app, two]; omega, suf.cps.toList, ?_⟩
          rw [cps_app, cps_app]
          rfl
        generalize (((⟨#[97 + ((f + 7 * (i : Int)) % 26).toNat]⟩ : Str) ++ ⟨#[97 + ((f + s + (i : Int) / 26) % 26).toNat]⟩) ++ suf : Str) = nm at hk ⊢
        generalize hG2 : L2.upd _ l _ = G
        have eG := atOf hG2
        have kG : Kx [p] H G := hG2 ▸ kx8.new nlH
        have hpG : PrO G p := hG2 ▸ h8.upd nlp
        clear hG2
        ((try (conv => whnf)); repeat (first | (refine cndT rfl ?_; (try (conv => whnf))) | (refine cndF rfl ?_; (try (conv => whnf)))))
        refine ⟨kG, hpG, ⟨acc ++ [nm], by rw [eG, List.map_append]; rfl, by rw [List.length_append, hal]; rfl, fun j z hj => ?_⟩, _, _, rfl⟩
        by_cases c : j < acc.length
        · rw [List.getElem?_append_left c] at hj
          exact hnm j z hj
        · rw [List.getElem?_append_right (by omega)] at hj
          have : j = i := by
            rcases Nat.lt_or_ge (j - acc.length) 1 with h | h
            · omega
            · rw [List.getElem?_eq_none (by simpa using h)] at hj; cases hj
          subst this
          rw [show j - acc.length = 0 by omega] at hj
          cases hj
          exact hk
      · rintro σ H8 ⟨kx8, h8, ⟨acc, hacc, hal, hnm⟩, v7, v8, rfl⟩
        have hal' : acc.length = n := by rw [hal]; simp
        ((try (conv => whnf)); repeat (first | (refine cndT rfl ?_; (try (conv => whnf))) | (refine cndF rfl ?_; (try (conv => whnf)))))
        refine q l acc H8 nlH kx8 h8 hacc hal' (nodup_of_inj fun i j z hij hi hj => ?_) (fun z hz => ?_)
        · have h1 := (List.getElem?_eq_some_iff.mp hi).1
          have h2 := (List.getElem?_eq_some_iff.mp hj).1
          have := (hnm i z hi).inj (by omega) (by omega) (hnm j z hj)
          omega
        · obtain ⟨j, hj, rfl⟩ := List.getElem_of_mem hz
          have hh := hnm j _ (List.getElem?_eq_getElem hj)
          exact str_nameS (by have := hh.2.1; omega) hh.1
    refine cndB (fun c => ?_) (fun c => ?_)
    · ((try (conv => whnf)); repeat (first | (refine cndT rfl ?_; (try (conv => whnf))) | (refine cndF rfl ?_; (try (conv => whnf)))))
      have hn9 : n < 9 := by
        have : ((n : Nat) : Int) < 9 := of_decide_eq_true c
        omega
      refine ⟨p, 4, rfl, h5, rfl, by decide, by decide, fun d H6 d0 d1 b6 h6 => ?_⟩
      have kx6 := kx5.trans (Kx.but (S := [p]) b6 (by simp))
      refine cndB (fun c => ?_) (fun c => ?_)
      · ((try (conv => whnf)); repeat (first | (refine cndT rfl ?_; (try (conv => whnf))) | (refine cndF rfl ?_; (try (conv => whnf)))))
        refine ⟨_, rfl, by omega, by omega, ?_⟩
        have hcut : ∀ i : Nat, ∃ m : Nat, (1 + (0 + (i : Int) + s) % 8) = m ∧ m = 1 + ((i : Int) + s).toNat % 8 := fun i => by
          refine ⟨(1 + (0 + (i : Int) + s) % 8).toNat, by omega, by omega⟩
        refine lcIt walk_range fun D hD => ⟨fun i Hh => Same H6 Hh ∧ ∃ acc : List Str, Hh D = some (.lst (acc.map V.str)) ∧ acc.length = i ∧ ∀ (j : Nat) (z : Str), acc[j]? = some z → Alp z 8 ∧ z.length = 1 + ((j : Int) + s).toNat % 8, ⟨Same.new (Same.refl _) hD, [], upd_same, rfl, fun j z hz => by simp at hz⟩, fun _ _ _ _ => trivial, fun i x H7 H8 hi hpv y => ?_, fun H7 hpv => ?_⟩
        · obtain ⟨s7, acc, hacc, hal, hac⟩ := hpv
          obtain ⟨rfl, rfl⟩ := y
          have hi' : i < n := by simpa using hi
          obtain ⟨m, hm, hm2⟩ := hcut i
          refine ⟨rfl, ?_⟩
          ((try (conv => whnf)); repeat (first | (refine cndT rfl ?_; (try (conv => whnf))) | (refine cndF rfl ?_; (try (conv => whnf)))))
          refine ⟨by decide, ?_⟩
          ((try (conv => whnf)); repeat (first | (refine cndT rfl ?_; (try (conv => whnf))) | (refine cndF rfl ?_; (try (conv => whnf)))))
          rw [hm]
          refine ⟨_, rfl, slS (by have := hw.len; rw [sizeLine_eq]; omega) ?_⟩
          have ha : Alp (cutS base none (some (m : Int))) 8 := hw.cut
          have hal' : (cutS base none (some (m : Int))).length = m := cut_len (by rw [hwl]; omega)
          refine ⟨_, hacc, by rw [List.length_map, sizeLine_eq]; omega, Same.upd s7 hD, acc ++ [cutS base none (some (m : Int))], ?_, by rw [List.length_append, hal]; rfl, fun j z hj => ?_⟩
          · rw [upd_same, List.map_append]
            rfl
          · by_cases c : j < acc.length
            · rw [List.getElem?_append_left c] at hj
              exact hac j z hj
            · rw [List.getElem?_append_right (by omega)] at hj
              have : j = i := by
                rcases Nat.lt_or_ge (j - acc.length) 1 with h | h
                · omega
                · rw [List.getElem?_eq_none (by simpa using h)] at hj; cases hj
              subst this
              rw [show j - acc.length = 0 by omega] at hj
              cases hj
              exact ⟨ha, hal'.trans hm2⟩
        · obtain ⟨s7, acc, hacc, hal, hac⟩ := hpv
          have hal' : acc.length = n := by rw [hal]; simp
          have nDH : H D = none := kx6.none hD (fun b hb => by rw [List.mem_singleton.mp hb]; exact h6.ne)
          refine q D acc H7 nDH (kx6.trans (.same s7)) (h6.same s7) hacc hal' (nodup_of_inj fun i j z hij hi hj => ?_) (fun z hz => ?_)
          · have h1 := (List.getElem?_eq_some_iff.mp hi).1
            have h2 := (List.getElem?_eq_some_iff.mp hj).1
            have l1 := (hac i z hi).2
            have l2 := (hac j z hj).2
            omega
          · obtain ⟨j, hj, rfl⟩ := List.getElem_of_mem hz
            obtain ⟨x1, x2⟩ := hac j _ (List.getElem?_eq_getElem hj)
            exact str_nameS (by omega) x1
      · ((try (conv => whnf)); repeat (first | (refine cndT rfl ?_; (try (conv => whnf))) | (refine cndF rfl ?_; (try (conv => whnf)))))
        exact tail H6 kx6 h6
    · ((try (conv => whnf)); repeat (first | (refine cndT rfl ?_; (try (conv => whnf))) | (refine cndF rfl ?_; (try (conv => whnf)))))
      exact tail H5 kx5 h5

end Wk27
namespace Wk27
open PySem L2 PySem.Spec PyProof.Rows Rf
theorem paired_get' {α β : Type} {F : α → β → Prop} : ∀ {xs : List α} {ys : List β}, Paired F xs ys → ∀ {i : Nat} {y : β}, ys[i]? = some y → ∃ x, xs[i]? = some x ∧ F x y
  | _, _, .nil, i, x, h => by cases h
  | _, _, .cons r t, 0, x, h => by
    have e := Option.some.inj h
    subst e
    exact ⟨_, rfl, r⟩
  | _, _, .cons r t, i + 1, x, h => paired_get' t h
theorem pure_l_pairs {K a b c H Q E} (h : P_l_pairs K a b c H Q E) : t_l_pairs K E { nx := fun _ H' => Q .non H', rt := Q } [some a, some b, some c, none, none, none, none, none] H := by
  obtain ⟨p, m, n, rfl, hp, rfl, m2, m60, rfl, hn, q⟩ := h
  ((try (conv => whnf)); repeat (first | (refine cndT rfl ?_; (try (conv => whnf))) | (refine cndF rfl ?_; (try (conv => whnf)))))
  refine ⟨by show 0 ≤ sizeLine; decide, ?_⟩
  (intro l nl; generalize hG : _root_.L2.upd _ l _ = H1; have s1 := sameOf nl hG; have e1 := atOf hG; clear hG; ((try (conv => whnf)); repeat (first | (refine cndT rfl ?_; (try (conv => whnf))) | (refine cndF rfl ?_; (try (conv => whnf))))))
  have nlp : l ≠ p := (ne_n hp.ne nl).symm
  refine ⟨_, rfl, by omega, by omega, ?_⟩
  refine forR (fun i σ H' => Kx [p] H H' ∧ PrO H' p ∧ (∃ ts ps, H' l = some (.lst (ts.map V.ref)) ∧ Paired (isPr H') ts ps ∧ ps.Nodup ∧ (∀ e ∈ ps, e.1 < e.2 ∧ e.2 < m) ∧ ps.length ≤ i) ∧ ∃ v4 v5 v6 v7 : Option V, σ = [some (.ref p), some (.int m), some (.int n), some (.ref l), v4, v5, v6, v7]) ⟨.same s1, hp.same s1, ⟨[], [], e1, .nil, .nil, (fun e he => by cases he), Nat.le_refl _⟩, _, _, _, _, rfl⟩ ?_ ?_
  · rintro i σ H2 hi ⟨kx2, h2, ⟨ts, ps, hl2, pts, hnd, hps, hle⟩, v4, v5, v6, v7, rfl⟩
    have hi' : i < n := by simpa using hi
    ((try (conv => whnf)); repeat (first | (refine cndT rfl ?_; (try (conv => whnf))) | (refine cndF rfl ?_; (try (conv => whnf)))))
    refine ⟨p, m, rfl, h2, rfl, by omega, by omega, fun a H3 a0 a1 b3 h3 => ?_⟩
    ((try (conv => whnf)); repeat (first | (refine cndT rfl ?_; (try (conv => whnf))) | (refine cndF rfl ?_; (try (conv => whnf)))))
    refine ⟨p, m, rfl, h3, rfl, by omega, by omega, fun b H4 b0 b1 b4 h4 => ?_⟩
    obtain ⟨a, rfl⟩ : ∃ j : Nat, a = j := ⟨a.toNat, by omega⟩
    obtain ⟨b, rfl⟩ : ∃ j : Nat, b = j := ⟨b.toNat, by omega⟩
    have hl4 := b4.at (b3.at hl2 nlp) nlp
    have kt : ∀ t o, H2 t = some (.tup o) → H4 t = some (.tup o) := fun t o eo => by
      obtain ⟨x, y, z, _, ep⟩ := h2
      have n : t ≠ p := nek eo ep (fun z => by cases z)
      exact b4.at (b3.at eo n) n
    have pts4 : Paired (isPr H4) ts ps := Paired.mapP pts fun t e ht => kt _ _ ht
    have kx4 := (kx2.trans (.but b3 (by simp))).trans (Kx.but (S := [p]) b4 (by simp))
    ((try (conv => whnf)); repeat (first | (refine cndT rfl ?_; (try (conv => whnf))) | (refine cndF rfl ?_; (try (conv => whnf)))))
    obtain ⟨u, v, hu, hv, hne, hvm⟩ : ∃ u v : Nat, (if (b : Int) < a then (b : Int) else a) = u ∧ (if (b : Int) > a then (b : Int) else a) = v ∧ (a ≠ b → u < v) ∧ v < m := ⟨min a b, max a b, by split <;> omega, by split <;> omega, by omega, by omega⟩
    rw [hu, hv]
    refine ⟨by show 2 ≤ sizeLine; decide, ?_⟩
    (intro t nt; generalize hG : _root_.L2.upd _ t _ = H5; have s5 := sameOf nt hG; have e5 := atOf hG; clear hG; ((try (conv => whnf)); repeat (first | (refine cndT rfl ?_; (try (conv => whnf))) | (refine cndF rfl ?_; (try (conv => whnf))))))
    have hl5 := s5 _ _ hl4
    have pts5 : Paired (isPr H5) ts ps := Paired.mapP pts4 fun t e ht => s5 _ _ ht
    have kx5 := kx4.trans (Kx.same (S := [p]) s5)
    have keep : (∃ ts ps, H5 l = some (.lst (ts.map V.ref)) ∧ Paired (isPr H5) ts ps ∧ ps.Nodup ∧ (∀ e ∈ ps, e.1 < e.2 ∧ e.2 < m) ∧ ps.length ≤ i + 1) := ⟨ts, ps, hl5, pts5, hnd, hps, by omega⟩
    refine cndB (fun c => ?_) (fun c => ?_)
    · have hab : a ≠ b := fun e => by
        rw [e] at c
        simp at c
      ((try (conv => whnf)); repeat (first | (refine cndT rfl ?_; (try (conv => whnf))) | (refine cndF rfl ?_; (try (conv => whnf)))))
      refine .inr (.inr ⟨t, [(u : Int), (v : Int)], l, ts, rfl, e5, rfl, SqL.of hl5, fun t' ht' => ?_, fun bb hb => ?_⟩)
      · obtain ⟨j, hj⟩ := List.getElem?_of_mem ht'
        obtain ⟨e, he, het⟩ := paired_get pts5 hj
        exact ⟨[(e.1 : Int), (e.2 : Int)], het⟩
      cases bb with
      | true =>
        ((try (conv => whnf)); repeat (first | (refine cndT rfl ?_; (try (conv => whnf))) | (refine cndF rfl ?_; (try (conv => whnf)))))
        exact ⟨kx5, h4.same s5, keep, _, _, _, _, rfl⟩
      | false =>
        have hnew : (u, v) ∉ ps := fun hm => by
          obtain ⟨j, hj⟩ := List.getElem?_of_mem hm
          obtain ⟨t', ht', het⟩ := paired_get' pts5 hj
          exact absurd (hb.mpr ⟨t', List.mem_of_getElem? ht', het⟩) (by simp)
        have hlen := Paired.length pts5
        ((try (conv => whnf)); repeat (first | (refine cndT rfl ?_; (try (conv => whnf))) | (refine cndF rfl ?_; (try (conv => whnf)))))
        refine ⟨.inl ⟨rfl, _, SqL.of hl5⟩, ?_⟩
        ((try (conv => whnf)); repeat (first | (refine cndT rfl ?_; (try (conv => whnf))) | (refine cndF rfl ?_; (try (conv => whnf)))))
        refine ⟨l, _, _, rfl, rfl, hl5, by rw [List.length_map, sizeLine_eq]; omega, ?_⟩
        (generalize hG : _root_.L2.upd _ l _ = H6; have b6 := butOf hG; have e6 := atOf hG; clear hG; ((try (conv => whnf)); repeat (first | (refine cndT rfl ?_; (try (conv => whnf))) | (refine cndF rfl ?_; (try (conv => whnf))))))
        have ntl : ∀ {t' : Addr} {o : List V}, H5 t' = some (.tup o) → t' ≠ l := fun e => nek e hl5 (fun z => by cases z)
        refine ⟨fun b o hb e => b6.at (kx5 _ _ hb e) (ne_n (some_ne e) nl), (h4.same s5).but b6 nlp.symm, ⟨ts ++ [t], ps ++ [(u, v)], by rw [e6, List.map_append]; rfl, Paired.snoc (Paired.mapP pts5 fun t' e ht => b6.at ht (ntl ht)) (b6.at e5 (ntl e5)), ?_, fun e he => ?_, by rw [List.length_append]; show ps.length + 1 ≤ _; omega⟩, _, _, _, _, rfl⟩
        · rw [List.nodup_append]
          refine ⟨hnd, by simp, fun a ha c hc => ?_⟩
          rw [List.mem_singleton.mp hc]
          exact fun e => hnew (e ▸ ha)
        · rcases List.mem_append.mp he with he | he
          · exact hps e he
          · rw [List.mem_singleton.mp he]
            exact ⟨hne hab, hvm⟩
    · ((try (conv => whnf)); repeat (first | (refine cndT rfl ?_; (try (conv => whnf))) | (refine cndF rfl ?_; (try (conv => whnf)))))
      exact ⟨kx5, h4.same s5, keep, _, _, _, _, rfl⟩
  · rintro σ H2 ⟨kx2, h2, ⟨ts, ps, hl2, pts, hnd, hps, hle⟩, v4, v5, v6, v7, rfl⟩
    ((try (conv => whnf)); repeat (first | (refine cndT rfl ?_; (try (conv => whnf))) | (refine cndF rfl ?_; (try (conv => whnf)))))
    refine q l ts ps H2 nl kx2 h2 hl2 pts hnd hps ?_
    have : ((n : Nat) : Int).toNat = n := by omega
    omega

end Wk27
namespace Wk27
open PySem L2 PySem.Spec PyProof.Rows Rf
theorem zip_at {α β : Type} : ∀ {l : List α} {m : List β} {i : Nat} {a : α} {b : β}, l[i]? = some a → m[i]? = some b → (l.zip m)[i]? = some (a, b)
  | [], _, _, _, _, h, _ => by simp at h
  | _ :: _, [], _, _, _, _, h => by simp at h
  | _ :: _, _ :: _, 0, _, _, h, h2 => by
    cases h
    cases h2
    rfl
  | _ :: _, _ :: _, i + 1, _, _, h, h2 => zip_at (i := i) h h2
theorem zip_fst {α β : Type} : ∀ {l : List α} {m : List β}, m.length = l.length → (l.zip m).map Prod.fst = l
  | [], _, _ => rfl
  | _ :: _, [], h => by cases h
  | a :: l, b :: m, h => by
    show a :: (l.zip m).map Prod.fst = a :: l
    rw [zip_fst (Nat.succ.inj h)]
theorem isPl_in {W : WebS} {z : Str} (hz : z ∈ W.hv.map Prod.fst) : isPl W z := by
  obtain ⟨e, he, rfl⟩ := List.mem_map.mp hz
  obtain ⟨i, hi⟩ := List.getElem?_of_mem he
  exact isPl_of hi
/-- a tie that is to come is not there yet, either way -/
theorem knot_new2 {nm : List Str} {T : List ((Str × Str) × Int)} (nd : nm.Nodup) (tk : (T.map Prod.fst).Nodup) (tr : ∀ e ∈ T, (∃ a b : Nat, a < b ∧ nm[a]? = some e.1.1 ∧ nm[b]? = some e.1.2) ∧ True) {W : WebS} {i : Nat} {e : (Str × Str) × Int} (he : T[i]? = some e) (hk : Paired Flip (T.take i) W.kn) {u v : Str} (huv : (u, v) = e.1 ∨ (v, u) = e.1) : knotW W u v = none := by
  have no : ∀ a b : Str, (a, b) = e.1 ∨ (b, a) = e.1 → ¬ (getA W.kn (a, b)).isSome = true := fun a b hab hs => by
    obtain ⟨f, hf, ef⟩ := getA_memK hs
    obtain ⟨j, g, hg, fl⟩ := flip_mem hk hf
    have hj : j < i := by
      have := (List.getElem?_eq_some_iff.mp hg).1
      rw [List.length_take] at this
      omega
    rw [List.getElem?_take_of_lt hj] at hg
    have hgm := List.mem_of_getElem? hg
    have hem := List.mem_of_getElem? he
    obtain ⟨⟨a1, b1, lt1, p1, p2⟩, _⟩ := tr e hem
    obtain ⟨⟨a2, b2, lt2, r1, r2⟩, _⟩ := tr g hgm
    have same : g.1 ≠ e.1 := fun z => by
      have hl : j < (T.map Prod.fst).length := by
        rw [List.length_map]
        exact (List.getElem?_eq_some_iff.mp hg).1
      have : j = i := (List.getElem?_inj hl tk).mp (show (T.map Prod.fst)[j]? = (T.map Prod.fst)[i]? by rw [List.getElem?_map, List.getElem?_map, hg, he]; exact congrArg some z)
      omega
    have cross : (g.1.2, g.1.1) ≠ e.1 := fun z => by
      have z1 := congrArg Prod.fst z
      have z2 := congrArg Prod.snd z
      have nl : ∀ {a b : Nat} {z : Str}, nm[a]? = some z → nm[b]? = some z → a = b := fun {a b z} ha hb => (List.getElem?_inj (List.getElem?_eq_some_iff.mp ha).1 nd).mp (ha.trans hb.symm)
      have h1 : b2 = a1 := nl r2 (p1.trans (congrArg some z1.symm))
      have h2 : a2 = b1 := nl r1 (p2.trans (congrArg some z2.symm))
      omega
    have hgab : g.1 = (a, b) ∨ (g.1.2, g.1.1) = (a, b) := by
      rcases fl with fl | fl
      · left; rw [← ef, fl]
      · right; rw [← ef, fl]
    rcases hab with hab | hab <;> rcases hgab with hgab | hgab
    · exact same (hgab.trans hab)
    · exact cross (hgab.trans hab)
    · apply cross
      rw [hgab]
      exact hab
    · apply same
      have z1 := congrArg Prod.fst hgab
      have z2 := congrArg Prod.snd hgab
      rw [← hab]
      exact Prod.ext z2 z1
  unfold knotW
  rw [if_neg (no u v huv), if_neg (no v u huv.symm)]
theorem getD_of {nm : List Str} {a : Nat} {z : Str} (h : nm[a]? = some z) : nm.getD a "" = z := by
  rw [List.getD_eq_getElem?_getD, h]
  rfl
theorem MdOk.named {M W} (h : MdOk M W) : ∀ e ∈ M.ti.map (nmT M.nm), (∃ a b : Nat, a < b ∧ M.nm[a]? = some e.1.1 ∧ M.nm[b]? = some e.1.2) ∧ 1 ≤ e.2 ∧ e.2 ≤ 5000003 := by
  intro e he
  obtain ⟨f, hf, rfl⟩ := List.mem_map.mp he
  obtain ⟨h1, h2, h3, h4⟩ := h.tr f hf
  refine ⟨⟨f.1.1, f.1.2, h1, ?_, ?_⟩, h3, h4⟩
  · show M.nm[f.1.1]? = some (M.nm.getD f.1.1 "")
    rw [getD_of (List.getElem?_eq_getElem (by omega))]
    exact List.getElem?_eq_getElem (by omega)
  · show M.nm[f.1.2]? = some (M.nm.getD f.1.2 "")
    rw [getD_of (List.getElem?_eq_getElem h2)]
    exact List.getElem?_eq_getElem h2
/-- the names' pairs are as unlike as the numbers' -/
theorem named_nodup {nm : List Str} (nd : nm.Nodup) {l : List ((Nat × Nat) × Int)} (h : ∀ e ∈ l, e.1.1 < nm.length ∧ e.1.2 < nm.length) (tk : (l.map Prod.fst).Nodup) : ((l.map (nmT nm)).map Prod.fst).Nodup := by
  have inj : ∀ {a b : Nat}, a < nm.length → b < nm.length → nm.getD a "" = nm.getD b "" → a = b := fun {a b} ha hb e => by
    rw [getD_of (List.getElem?_eq_getElem ha), getD_of (List.getElem?_eq_getElem hb)] at e
    exact (List.getElem?_inj ha nd).mp (by rw [List.getElem?_eq_getElem ha, List.getElem?_eq_getElem hb, e])
  induction l with
  | nil => exact .nil
  | cons e l ih =>
    rw [List.map_cons] at tk
    obtain ⟨h1, h2⟩ := List.nodup_cons.mp tk
    rw [List.map_cons, List.map_cons]
    refine List.nodup_cons.mpr ⟨fun hm => ?_, ih (fun f hf => h f (List.mem_cons_of_mem _ hf)) h2⟩
    obtain ⟨g, hg, eg⟩ := List.mem_map.mp hm
    obtain ⟨f, hf, rfl⟩ := List.mem_map.mp hg
    obtain ⟨e1, e2⟩ := h e (List.mem_cons_self ..)
    obtain ⟨f1, f2⟩ := h f (List.mem_cons_of_mem _ hf)
    have a1 := inj f1 e1 (congrArg Prod.fst eg)
    have a2 := inj f2 e2 (congrArg Prod.snd eg)
    exact h1 (List.mem_map.mpr ⟨f, hf, Prod.ext a1 a2⟩)
/-- ahead of the web: names, weights, ties -/
structure PreO (H : Hp) (ln lw lt : Addr) (M : MdS) (n : Nat) : Prop where
  nm : H ln = some (.lst (M.nm.map V.str))
  ws : H lw = some (.lst (M.ws.map V.int))
  ti : ∃ ts : List Addr, H lt = some (.lst (ts.map V.ref)) ∧ Paired (isTI H) ts M.ti
  nd : M.nm.Nodup
  good : ∀ z ∈ M.nm, nameS z = true
  len : M.nm.length = n
  wl : M.ws.length = M.nm.length
  wr : ∀ w ∈ M.ws, 1 ≤ w ∧ w ≤ 16000000
  tk : (M.ti.map Prod.fst).Nodup
  tr : ∀ e ∈ M.ti, e.1.1 < e.1.2 ∧ e.1.2 < M.nm.length ∧ 1 ≤ e.2 ∧ e.2 ≤ 5000000
  tl : M.ti.length ≤ 179
theorem PreO.frame {H H' ln lw lt M n} (h : PreO H ln lw lt M n) (k : ∀ b o, H b = some o → (∀ kvs, o ≠ .dK kvs) → H' b = some o) : PreO H' ln lw lt M n := by
  obtain ⟨ts, a, p⟩ := h.ti
  exact ⟨k _ _ h.nm (fun _ z => by cases z), k _ _ h.ws (fun _ z => by cases z), ⟨ts, k _ _ a (fun _ z => by cases z), Paired.mapP p fun t e ht => k _ _ ht (fun _ z => by cases z)⟩, h.nd, h.good, h.len, h.wl, h.wr, h.tk, h.tr, h.tl⟩
theorem PreO.same {H H' ln lw lt M n} (h : PreO H ln lw lt M n) (s : Same H H') : PreO H' ln lw lt M n := h.frame fun b o e _ => s _ _ e
theorem PreO.kx {H H' ln lw lt M n} {p : Addr} (h : PreO H ln lw lt M n) (hp : PrO H p) (k : Kx [p] H H') : PreO H' ln lw lt M n := h.frame fun b o e hn => k.pr hp e fun _ _ _ => hn _

end Wk27
namespace Wk27
open PySem L2 PySem.Spec PyProof.Rows Rf
def tail_web (K : PySem.W.Frag) (E : XK) : TS :=
  (tSeq (tAsg (tMakeS (He.ga K "Web") (sp_Web_init K) [] (fun _ => E) tNil) (gName 6))
  (tSeq (forS [(false, iZip K (tCons (tV 2) (tCons (tV 4) tNil)))] (gTup K 2 (gCons (gName 7) (gCons (gName 8) gNil))) (tDrop (tMethS (He.ga K "Web") "put" (sp_Web_put K) [] (fun _ => E) (tV 6) (tCons (tV 7) (tCons (tV 8) tNil)))))
  (tSeq (forS (seqOr K true (tV 5)) (gTup K 3 (gCons (gName 9) (gCons (gName 10) (gCons (gName 11) gNil)))) (tSeq (tAsg (tStp K (tLst (tCons (tOp (rIxU K) (tV 2) (tV 9)) (tCons (tOp (rIxU K) (tV 2) (tV 10)) tNil))) (tOp rSubU (tC (.int 1)) (tOp rMulU (tC (.int 2)) (tOp rModU (tV 11) (tC (.int 2)))))) (gName 12))
  (tDrop (tMethS (He.ga K "Web") "tie" (sp_Web_tie K) [] (fun _ => E) (tV 6) (tCons (tOp (rIxU K) (tV 12) (tC (.int 0))) (tCons (tOp (rIxU K) (tV 12) (tC (.int 1))) (tCons (tV 11) tNil)))))))
  (tRet (tTup (tCons (tV 6) (tCons (tV 2) (tCons (tV 4) (tCons (tV 5) tNil)))))))))
theorem tail_web_ok {K E Q} {p ln lw lt : Addr} {n : Nat} {kd : Int} {M : MdS} {H H6 : Hp} {v9 va vb : Option V} (wk : WebK K) (k6 : Kx [p] H H6) (h6 : PrO H6 p) (pre : PreO H6 ln lw lt M n) (hn : n ≤ 60) (nln : H ln = none) (nlw : H lw = none) (nlt : H lt = none) (np : H p ≠ none)
    (k : ∀ T x wp wq W H', H x = none → H wp = none → H wq = none → Kx [p] H H' → PrO H' p → H' T = some (.tup [.ref x, .ref ln, .ref lw, .ref lt]) → MdO K H' x wp wq ln lw lt M W → Q (.ref T) H') :
    tail_web K E { nx := fun _ H' => Q .non H', rt := Q } [some (.ref p), some (.int n), some (.ref ln), some (.int kd), some (.ref lw), some (.ref lt), none, none, none, v9, va, vb, none] H6 := by
  ((try (conv => whnf)); repeat (first | (refine cndT rfl ?_; (try (conv => whnf))) | (refine cndF rfl ?_; (try (conv => whnf)))))
  intro x dx nx ndx nxd
  generalize hG : L2.upd _ x _ = H7
  have e1 := atOf hG
  have s7 : Same H6 H7 := hG ▸ Same.upd (Same.new (Same.refl _) ndx) nx
  clear hG
  refine ⟨x, dx, rfl, wk, e1, fun wp wq H8 nwp nwq hw8 k8 => ?_⟩
  have s8 : Same H6 H8 := fun b o e => k8 b o (by simp; exact ne_of_none e nx) (s7 b o e)
  have fp : ∀ b ∈ [p], H6 b ≠ none := fun b hb => by rw [List.mem_singleton.mp hb]; exact h6.ne
  have nxH : H x = none := k6.none nx fp
  have nwp6 := s7.free nwp
  have nwq6 := s7.free nwq
  have nwpH : H wp = none := k6.none nwp6 fp
  have nwqH : H wq = none := k6.none nwq6 fp
  have npwp : p ≠ wp := ne_n h6.ne nwp6
  have npwq : p ≠ wq := ne_n h6.ne nwq6
  refine ⟨rfl, ?_⟩
  have pre8 := pre.same s8
  have hzl : (M.nm.zip M.ws).length = n := by rw [List.length_zip, pre.wl, Nat.min_self, pre.len]
  ((try (conv => whnf)); repeat (first | (refine cndT rfl ?_; (try (conv => whnf))) | (refine cndF rfl ?_; (try (conv => whnf)))))
  refine ⟨ln, lw, _, _, rfl, SqL.of pre8.nm, SqL.of pre8.ws, ?_⟩
  refine forIt (walk_zip (xs := M.nm.map V.str) (ys := M.ws.map V.int) (n := n) (by rw [List.length_map, List.length_map, pre.wl, Nat.min_self, pre.len])) (fun i σ H' => ∃ W, Kx [p] H H' ∧ PrO H' p ∧ PreO H' ln lw lt M n ∧ WebO K H' x wp wq W ∧ W.hv = (M.nm.zip M.ws).take i ∧ W.kn = [] ∧ ∃ v7 v8 : Option V, σ = [some (.ref p), some (.int n), some (.ref ln), some (.int kd), some (.ref lw), some (.ref lt), some (.ref x), v7, v8, v9, va, vb, none]) ⟨⟨[], []⟩, k6.trans (.same s8), h6.same s8, pre8, hw8, rfl, rfl, _, _, rfl⟩ ?_ ?_ ?_
  · rintro i σ H' _ ⟨W, _, _, pr, _⟩
    exact ⟨SqL.of pr.nm, SqL.of pr.ws⟩
  · rintro i y σ H9 Ha hi ⟨W, k9, h9, pre9, hw9, hv9, hk9, v7, v8, rfl⟩ ⟨T, xv, yv, rfl, nT, rfl, hx, hy⟩
    replace hx : (M.nm.map V.str)[i]? = some xv := hx
    replace hy : (M.ws.map V.int)[i]? = some yv := hy
    rw [List.getElem?_map] at hx hy
    obtain ⟨z, hz, rfl⟩ := Option.map_eq_some_iff.mp hx
    obtain ⟨w, hw, rfl⟩ := Option.map_eq_some_iff.mp hy
    have hzw := zip_at hz hw
    have sa : Same H9 (L2.upd H9 T (.tup [.str z, .int w])) := Same.new (Same.refl _) nT
    refine ⟨T, _, rfl, SqT.of upd_same, rfl, _, _, rfl, _, _, rfl, rfl, ?_⟩
    generalize L2.upd H9 T (.tup [.str z, .int w]) = Ha at sa ⊢
    obtain ⟨dxa, hoa⟩ := (hw9.same sa).o
    obtain ⟨w1, w2⟩ := pre.wr w (List.mem_of_getElem? hw)
    have hk : W.hv.map Prod.fst = M.nm.take i := by
      rw [hv9, List.map_take, zip_fst (by rw [pre.wl])]
    have hnone := fresh_take pre.nd hz hk
    have hlen : W.hv.length = i := by
      rw [hv9, List.length_take, hzl]
      omega
    have htot : totalW W ≤ W.hv.length * 16000000 := sum_leA fun e he => by
      rw [hv9] at he
      exact (pre.wr e.2 (List.of_mem_zip (List.mem_of_mem_take he)).2).2
    ((try (conv => whnf)); repeat (first | (refine cndT rfl ?_; (try (conv => whnf))) | (refine cndF rfl ?_; (try (conv => whnf)))))
    refine ⟨x, dxa, _, rfl, hoa, webF_n (by decide +kernel) (by decide +kernel), ?_⟩
    ((try (conv => whnf)); repeat (first | (refine cndT rfl ?_; (try (conv => whnf))) | (refine cndF rfl ?_; (try (conv => whnf)))))
    refine ⟨x, wp, wq, W, z, w, rfl, hw9.same sa, rfl, rfl, pre.good z (List.mem_of_getElem? hz), w1, by omega, hnone, by omega, by omega, fun Hb kb eb => ?_⟩
    rw [getA_app hnone] at eb
    have ha := h9.same sa
    have prea := pre9.same sa
    have hwpa := (hw9.same sa).hv
    have stay : ∀ b o, Ha b = some o → (∀ kvs, o ≠ .dK kvs) → Hb b = some o := fun b o e n => kb b o (by simp; exact nek e hwpa (n _)) e
    ((try (conv => whnf)); repeat (first | (refine cndT rfl ?_; (try (conv => whnf))) | (refine cndF rfl ?_; (try (conv => whnf)))))
    refine ⟨⟨W.hv ++ [(z, w)], W.kn⟩, (k9.trans (.same sa)).fresh kb nwpH, ?_, prea.frame stay, (hw9.same sa).setH kb eb, ?_, hk9, _, _, rfl⟩
    · obtain ⟨a1, a2, a3, a4, ep⟩ := ha
      exact ⟨a1, a2, a3, a4, kb _ _ (by simp; exact npwp) ep⟩
    · show W.hv ++ [(z, w)] = _
      rw [List.take_add_one, hzw, hv9]
      rfl
  · rintro σ H9 ⟨W, k9, h9, pre9, hw9, hv9, hk9, v7, v8, rfl⟩
    have hv' : W.hv = M.nm.zip M.ws := by rw [hv9, List.take_of_length_le (by omega)]
    clear hv9
    obtain ⟨ts, elt, pts⟩ := pre9.ti
    have htl := Paired.length pts
    have htl2 := pre.tl
    ((try (conv => whnf)); repeat (first | (refine cndT rfl ?_; (try (conv => whnf))) | (refine cndF rfl ?_; (try (conv => whnf)))))
    left
    ((try (conv => whnf)); repeat (first | (refine cndT rfl ?_; (try (conv => whnf))) | (refine cndF rfl ?_; (try (conv => whnf)))))
    refine .inl ⟨_, SqL.of elt, ?_⟩
    have hT : ∀ e ∈ M.ti.map (nmT M.nm), (∃ a b : Nat, a < b ∧ M.nm[a]? = some e.1.1 ∧ M.nm[b]? = some e.1.2) ∧ True := fun e he => by
      obtain ⟨f, hf, rfl⟩ := List.mem_map.mp he
      obtain ⟨t1, t2, _⟩ := pre.tr f hf
      refine ⟨⟨f.1.1, f.1.2, t1, ?_, ?_⟩, trivial⟩
      · show M.nm[f.1.1]? = some (M.nm.getD f.1.1 "")
        rw [getD_of (List.getElem?_eq_getElem (by omega))]
        exact List.getElem?_eq_getElem (by omega)
      · show M.nm[f.1.2]? = some (M.nm.getD f.1.2 "")
        rw [getD_of (List.getElem?_eq_getElem t2)]
        exact List.getElem?_eq_getElem t2
    have hTk : ((M.ti.map (nmT M.nm)).map Prod.fst).Nodup := named_nodup pre.nd (fun e he => by
      obtain ⟨t1, t2, _⟩ := pre.tr e he
      exact ⟨by omega, t2⟩) pre.tk
    refine forL (SqL.of elt) (fun i σ H' => ∃ W, Kx [p] H H' ∧ PrO H' p ∧ PreO H' ln lw lt M n ∧ H' lt = some (.lst (ts.map V.ref)) ∧ Paired (isTI H') ts M.ti ∧ WebO K H' x wp wq W ∧ W.hv = M.nm.zip M.ws ∧ Paired Flip ((M.ti.map (nmT M.nm)).take i) W.kn ∧ ∃ v9 va vb vc : Option V, σ = [some (.ref p), some (.int n), some (.ref ln), some (.int kd), some (.ref lw), some (.ref lt), some (.ref x), v7, v8, v9, va, vb, vc]) ⟨W, k9, h9, pre9, elt, pts, hw9, hv', by rw [hk9]; exact .nil, _, _, _, _, rfl⟩ ?_ ?_ ?_
    · rintro i σ H' _ ⟨W, _, _, _, e, _⟩
      exact SqL.of e
    · clear hw9 hv' hk9 k9 h9 pre9 elt pts
      rintro i y σ Ha hy ⟨W, ka, ha, prea, elta, ptsa, hwa, hva, hka, v9, va, vb, vc, rfl⟩
      rw [List.getElem?_map] at hy
      obtain ⟨t, ht, rfl⟩ := Option.map_eq_some_iff.mp hy
      obtain ⟨e, he, het⟩ := paired_get ptsa ht
      have het : Ha t = some (.tup [.int e.1.1, .int e.1.2, .int e.2]) := het
      have hiT : (M.ti.map (nmT M.nm))[i]? = some (nmT M.nm e) := by rw [List.getElem?_map, he]; rfl
      obtain ⟨⟨a1, b1, ltab, p1, p2⟩, _⟩ := hT _ (List.mem_of_getElem? hiT)
      obtain ⟨r1, r2, r3, r4⟩ := pre.tr e (List.mem_of_getElem? he)
      have g1 : M.nm[e.1.1]? = some (nmT M.nm e).1.1 := by
        show M.nm[e.1.1]? = some (M.nm.getD e.1.1 "")
        rw [getD_of (List.getElem?_eq_getElem (by omega))]
        exact List.getElem?_eq_getElem (by omega)
      have g2 : M.nm[e.1.2]? = some (nmT M.nm e).1.2 := by
        show M.nm[e.1.2]? = some (M.nm.getD e.1.2 "")
        rw [getD_of (List.getElem?_eq_getElem r2)]
        exact List.getElem?_eq_getElem r2
      generalize hA : (nmT M.nm e).1.1 = A at p1 g1
      generalize hB : (nmT M.nm e).1.2 = B at p2 g2
      have hneq : A ≠ B := fun z => by
        rw [z] at g1
        have := (List.getElem?_inj (List.getElem?_eq_some_iff.mp g1).1 pre.nd).mp (g1.trans g2.symm)
        omega
      have plc : ∀ {a : Nat} {z : Str}, M.nm[a]? = some z → isPl W z := fun {a z} hz => by
        have h1 : (W.hv.map Prod.fst)[a]? = some z := by rw [hva, zip_fst (by rw [pre.wl])]; exact hz
        rw [List.getElem?_map] at h1
        obtain ⟨f, hf, ez⟩ := Option.map_eq_some_iff.mp h1
        rw [← ez]
        exact isPl_of hf
      have hlen : W.kn.length = i := by
        have hi := (List.getElem?_eq_some_iff.mp he).1
        rw [← Paired.length hka, List.length_take, List.length_map]
        omega
      have hi := (List.getElem?_eq_some_iff.mp he).1
      have hfor : forceW W ≤ W.kn.length * 5000000 := by
        unfold forceW
        rw [flip_sum hka]
        have h1 := sum_leA (l := (M.ti.map (nmT M.nm)).take i) (M := 5000000) fun e he => by
          obtain ⟨f, hf, rfl⟩ := List.mem_map.mp (List.mem_of_mem_take he)
          exact (pre.tr f hf).2.2.2
        rw [List.length_take, List.length_map, Nat.min_eq_left (by omega)] at h1
        rw [hlen]
        exact h1
      obtain ⟨dxa, hoa⟩ := hwa.o
      have n1 : atI (M.nm.map V.str) (e.1.1 : Int) = some (.str A) := atI_nat (by rw [List.getElem?_map, g1]; rfl)
      have n2 : atI (M.nm.map V.str) (e.1.2 : Int) = some (.str B) := atI_nat (by rw [List.getElem?_map, g2]; rfl)
      refine ⟨t, _, rfl, SqT.of het, rfl, _, _, rfl, _, _, rfl, _, _, rfl, rfl, ?_⟩
      unfold tStp
      ((try (conv => whnf)); repeat (first | (refine cndT rfl ?_; (try (conv => whnf))) | (refine cndF rfl ?_; (try (conv => whnf)))))
      refine ixLk prea.nm n1 ?_
      ((try (conv => whnf)); repeat (first | (refine cndT rfl ?_; (try (conv => whnf))) | (refine cndF rfl ?_; (try (conv => whnf)))))
      refine ixLk prea.nm n2 ?_
      ((try (conv => whnf)); repeat (first | (refine cndT rfl ?_; (try (conv => whnf))) | (refine cndF rfl ?_; (try (conv => whnf)))))
      refine ⟨by show 2 ≤ sizeLine; decide, ?_⟩
      (intro l1 nl1; generalize hG : _root_.L2.upd _ l1 _ = Hb; have sb := sameOf nl1 hG; have eb := atOf hG; clear hG; ((try (conv => whnf)); repeat (first | (refine cndT rfl ?_; (try (conv => whnf))) | (refine cndF rfl ?_; (try (conv => whnf))))))
      refine ⟨l1, rfl, ?_⟩
      ((try (conv => whnf)); repeat (first | (refine cndT rfl ?_; (try (conv => whnf))) | (refine cndF rfl ?_; (try (conv => whnf)))))
      refine ⟨by decide, ?_⟩
      ((try (conv => whnf)); repeat (first | (refine cndT rfl ?_; (try (conv => whnf))) | (refine cndF rfl ?_; (try (conv => whnf)))))
      refine ⟨mulL (by decide), ?_⟩
      ((try (conv => whnf)); repeat (first | (refine cndT rfl ?_; (try (conv => whnf))) | (refine cndF rfl ?_; (try (conv => whnf)))))
      obtain ⟨par, hpar⟩ : ∃ b : Bool, (1 - 2 * (e.2 % 2) = 1 ∧ b = true) ∨ (1 - 2 * (e.2 % 2) = -1 ∧ b = false) := by
        rcases Int.emod_two_eq e.2 with h | h
        · exact ⟨true, .inl ⟨by omega, rfl⟩⟩
        · exact ⟨false, .inr ⟨by omega, rfl⟩⟩
      refine ⟨_, rfl, by omega, _, SqL.of eb, ?_⟩
      intro l2 nl2
      generalize hG : L2.upd _ l2 _ = Hc
      have sc := sameOf nl2 hG
      have ec := atOf hG
      clear hG
      have s0c : Same Ha Hc := sb.trans sc
      obtain ⟨u, v, ec', huv⟩ : ∃ u v, Hc l2 = some (.lst [.str u, .str v]) ∧ ((u = A ∧ v = B) ∨ (u = B ∧ v = A)) := by
        rcases hpar with ⟨h, _⟩ | ⟨h, _⟩
        · rw [if_pos h] at ec
          exact ⟨A, B, ec, .inl ⟨rfl, rfl⟩⟩
        · rw [if_neg (by omega)] at ec
          exact ⟨B, A, ec, .inr ⟨rfl, rfl⟩⟩
      have hu : isPl W u := by
        rcases huv with ⟨rfl, _⟩ | ⟨rfl, _⟩
        · exact plc g1
        · exact plc g2
      have hv : isPl W v := by
        rcases huv with ⟨_, rfl⟩ | ⟨_, rfl⟩
        · exact plc g2
        · exact plc g1
      have huvne : u ≠ v := by
        rcases huv with ⟨rfl, rfl⟩ | ⟨rfl, rfl⟩
        · exact hneq
        · exact hneq.symm
      have hkno : knotW W u v = none := by
        refine knot_new2 pre.nd hTk hT hiT hka ?_
        rcases huv with ⟨rfl, rfl⟩ | ⟨rfl, rfl⟩
        · exact .inl (Prod.ext hA.symm hB.symm)
        · exact .inr (Prod.ext hA.symm hB.symm)
      have hwc := hwa.same s0c
      ((try (conv => whnf)); repeat (first | (refine cndT rfl ?_; (try (conv => whnf))) | (refine cndF rfl ?_; (try (conv => whnf)))))
      refine ⟨x, dxa, _, rfl, s0c _ _ hoa, webF_n (by decide +kernel) (by decide +kernel), ?_⟩
      ((try (conv => whnf)); repeat (first | (refine cndT rfl ?_; (try (conv => whnf))) | (refine cndF rfl ?_; (try (conv => whnf)))))
      refine ixLk ec' (v := .str u) rfl ?_
      refine ixLk ec' (v := .str v) rfl ?_
      ((try (conv => whnf)); repeat (first | (refine cndT rfl ?_; (try (conv => whnf))) | (refine cndF rfl ?_; (try (conv => whnf)))))
      refine ⟨x, wp, wq, W, u, v, e.2, rfl, hwc, rfl, rfl, rfl, hu, hv, huvne, r3, by omega, hkno, by omega, by omega, fun Hd kd' ed => ?_⟩
      have hnone : getA W.kn (u, v) = none := by
        cases hg : getA W.kn (u, v) with
        | none => rfl
        | some w =>
          unfold knotW at hkno
          rw [hg] at hkno
          cases hkno
      rw [getA_app hnone] at ed
      have hq := hwc.kn
      have stay : ∀ b o, Hc b = some o → (∀ kn, o ≠ .dT kn) → Hd b = some o := fun b o eo n => kd' b o (by simp; exact nek eo hq (n _)) eo
      ((try (conv => whnf)); repeat (first | (refine cndT rfl ?_; (try (conv => whnf))) | (refine cndF rfl ?_; (try (conv => whnf)))))
      refine ⟨⟨W.hv, W.kn ++ [((u, v), e.2)]⟩, (ka.trans (.same s0c)).fresh kd' nwqH, ?_, ?_, stay _ _ (s0c _ _ elta) (fun _ z => by cases z), Paired.mapP ptsa fun t e ht => stay _ _ (s0c _ _ ht) (fun _ z => by cases z), hwc.setK kd' ed, hva, ?_, _, _, _, _, rfl⟩
      · obtain ⟨a1, a2, a3, a4, ep⟩ := ha.same s0c
        exact ⟨a1, a2, a3, a4, stay _ _ ep (fun _ z => by cases z)⟩
      · obtain ⟨tsx, ax, px⟩ := (prea.same s0c).ti
        exact { prea with nm := stay _ _ (s0c _ _ prea.nm) (fun _ z => by cases z), ws := stay _ _ (s0c _ _ prea.ws) (fun _ z => by cases z), ti := ⟨tsx, stay _ _ ax (fun _ z => by cases z), Paired.mapP px fun t e ht => stay _ _ ht (fun _ z => by cases z)⟩ }
      · rw [List.take_add_one, hiT]
        refine Paired.snoc hka ?_
        rcases huv with ⟨rfl, rfl⟩ | ⟨rfl, rfl⟩
        · refine .inl (Prod.ext (Prod.ext hA.symm hB.symm) rfl)
        · refine .inr (Prod.ext (Prod.ext hB.symm hA.symm) rfl)
    · rintro σ Ha ⟨W, ka, ha, prea, elta, ptsa, hwa, hva, hka, v9, va, vb, vc, rfl⟩
      rw [List.length_map, htl, List.take_of_length_le (by rw [List.length_map]; exact Nat.le_refl _)] at hka
      ((try (conv => whnf)); repeat (first | (refine cndT rfl ?_; (try (conv => whnf))) | (refine cndF rfl ?_; (try (conv => whnf)))))
      refine ⟨by show 4 ≤ sizeLine; decide, ?_⟩
      (intro T nT; generalize hG : _root_.L2.upd _ T _ = Hb; have sb := sameOf nT hG; have eb := atOf hG; clear hG; ((try (conv => whnf)); repeat (first | (refine cndT rfl ?_; (try (conv => whnf))) | (refine cndF rfl ?_; (try (conv => whnf))))))
      exact k T x wp wq W Hb nxH nwpH nwqH (ka.trans (.same sb)) (ha.same sb) eb ⟨hwa.same sb, sb _ _ prea.nm, sb _ _ prea.ws, ⟨ts, sb _ _ elta, Paired.mapP ptsa fun t e ht => sb _ _ ht⟩, ⟨pre.nd, pre.good, by rw [pre.len]; exact hn, pre.wl, pre.wr, pre.tk, fun e he => (let ⟨q1, q2, q3, q4⟩ := pre.tr e he; ⟨q1, q2, q3, by omega⟩), pre.tl, hva, hka⟩⟩
theorem pure_l_web {K a b H Q E} (h : P_l_web K a b H Q E) : t_l_web K E { nx := fun _ H' => Q .non H', rt := Q } [some a, some b, none, none, none, none, none, none, none, none, none, none, none] H := by
  obtain ⟨p, n, wk, rfl, hp, rfl, hn, q⟩ := h
  ((try (conv => whnf)); repeat (first | (refine cndT rfl ?_; (try (conv => whnf))) | (refine cndF rfl ?_; (try (conv => whnf)))))
  refine ⟨p, n, rfl, hp, rfl, hn, fun ln nm H1 nln k1 h1 e1 hlen hnd hgood => ?_⟩
  have nlp : ln ≠ p := fun z => by
    obtain ⟨x, y, w, _, e⟩ := h1
    rw [z, e] at e1
    cases e1
  ((try (conv => whnf)); repeat (first | (refine cndT rfl ?_; (try (conv => whnf))) | (refine cndF rfl ?_; (try (conv => whnf)))))
  refine ⟨p, 4, rfl, h1, rfl, by decide, by decide, fun kd H2 d0 d1 b2 h2 => ?_⟩
  have k2 : Kx [p] H H2 := k1.trans (.but b2 (by simp))
  have e2 := b2.at e1 nlp
  ((try (conv => whnf)); repeat (first | (refine cndT rfl ?_; (try (conv => whnf))) | (refine cndF rfl ?_; (try (conv => whnf)))))
  left
  ((try (conv => whnf)); repeat (first | (refine cndT rfl ?_; (try (conv => whnf))) | (refine cndF rfl ?_; (try (conv => whnf)))))
  refine .inl ⟨_, SqL.of e2, ?_⟩
  refine lcIt walk_list fun D hD => ⟨fun i Hh => Kx [p] H2 Hh ∧ PrO Hh p ∧ ∃ acc : List Int, Hh D = some (.lst (acc.map V.int)) ∧ acc.length = i ∧ ∀ w ∈ acc, 1 ≤ w ∧ w ≤ 16000000, ⟨Kx.same (Same.new (Same.refl _) hD), h2.upd (ne_n h2.ne hD), [], upd_same, rfl, fun z hz => by cases hz⟩, fun i Hh hi hpv => SqL.of (hpv.1.pr h2 e2 prB_lst), fun i x H3 H4 hi hpv y => ?_, fun H3 hpv => ?_⟩
  · obtain ⟨kx, hpu, acc, hacc, hal, hac⟩ := hpv
    obtain ⟨rfl, _⟩ := y
    refine ⟨rfl, ?_⟩
    ((try (conv => whnf)); repeat (first | (refine cndT rfl ?_; (try (conv => whnf))) | (refine cndF rfl ?_; (try (conv => whnf)))))
    refine ⟨p, kd, 16000000, rfl, hpu, rfl, d0, d1, rfl, by decide, by decide, fun w H5 w0 w1 k5 h5 => ?_⟩
    have nDp : D ≠ p := (ne_n h2.ne hD).symm
    have hacc5 := k5 _ _ (by simp; exact nDp) hacc
    refine ⟨_, hacc5, by rw [List.length_map, sizeLine_eq]; rw [List.length_map] at hi; omega, (kx.trans k5).new hD, h5.upd nDp.symm, acc ++ [w], by rw [upd_same, List.map_append]; rfl, by rw [List.length_append, hal]; rfl, fun z hz => ?_⟩
    rcases List.mem_append.mp hz with hz | hz
    · exact hac z hz
    · rw [List.mem_singleton.mp hz]
      exact ⟨w0, w1⟩
  obtain ⟨kx, h3, ws, hws, hwl, hwr⟩ := hpv
  have k3 : Kx [p] H H3 := k2.trans kx
  have e3 := kx.pr h2 e2 prB_lst
  rw [List.length_map] at hwl
  have nDH : H D = none := k2.none hD (fun b hb => by rw [List.mem_singleton.mp hb]; exact h2.ne)
  have nDp : D ≠ p := (ne_n h2.ne hD).symm
  ((try (conv => whnf)); repeat (first | (refine cndT rfl ?_; (try (conv => whnf))) | (refine cndF rfl ?_; (try (conv => whnf)))))
  refine ⟨by show 0 ≤ sizeLine; decide, ?_⟩
  (intro lt nlt; generalize hG : _root_.L2.upd _ lt _ = H4; have s4 := sameOf nlt hG; have e4 := atOf hG; clear hG; ((try (conv => whnf)); repeat (first | (refine cndT rfl ?_; (try (conv => whnf))) | (refine cndF rfl ?_; (try (conv => whnf))))))
  have h4 := h3.same s4
  have nltp : lt ≠ p := (ne_n h3.ne nlt).symm
  have nltH : H lt = none := k3.none nlt (fun b hb => by rw [List.mem_singleton.mp hb]; exact h3.ne)
  have nltln : lt ≠ ln := (ne_of_none e3 nlt).symm
  have nltD : lt ≠ D := (ne_of_none hws nlt).symm
  refine ⟨p, 4, rfl, h4, rfl, by decide, by decide, fun kd2 H5 c0 c1 b5 h5 => ?_⟩
  have k5 : Kx [p] H H5 := (k3.trans (.same s4)).trans (.but b5 (by simp))
  have pre5 : PreO H5 ln D lt ⟨nm, ws, []⟩ n := ⟨b5.at (s4 _ _ e3) nlp, b5.at (s4 _ _ hws) nDp, ⟨[], b5.at e4 nltp, .nil⟩, hnd, hgood, hlen, hwl, hwr, .nil, (fun e he => by cases he), by show 0 ≤ 179; decide⟩
  ((try (conv => whnf)); repeat (first | (refine cndT rfl ?_; (try (conv => whnf))) | (refine cndF rfl ?_; (try (conv => whnf)))))
  refine cutH (fun σ' H' => Kx [p] H H' ∧ PrO H' p ∧ (∃ ti, PreO H' ln D lt ⟨nm, ws, ti⟩ n) ∧ ∃ v9 va vb : Option V, σ' = [some (.ref p), some (.int n), some (.ref ln), some (.int kd2), some (.ref D), some (.ref lt), none, none, none, v9, va, vb, none]) ?_ ?_
  · ((try (conv => whnf)); repeat (first | (refine cndT rfl ?_; (try (conv => whnf))) | (refine cndF rfl ?_; (try (conv => whnf)))))
    refine cndB (fun c => ?_) (fun c => ?_)
    · have hn1 : 1 < n := by
        have : (1 : Int) < n := of_decide_eq_true c
        omega
      ((try (conv => whnf)); repeat (first | (refine cndT rfl ?_; (try (conv => whnf))) | (refine cndF rfl ?_; (try (conv => whnf)))))
      left
      ((try (conv => whnf)); repeat (first | (refine cndT rfl ?_; (try (conv => whnf))) | (refine cndF rfl ?_; (try (conv => whnf)))))
      refine ⟨mulL (by decide), ?_⟩
      ((try (conv => whnf)); repeat (first | (refine cndT rfl ?_; (try (conv => whnf))) | (refine cndF rfl ?_; (try (conv => whnf)))))
      refine ⟨p, 3 * (n : Int), rfl, h5, rfl, by omega, by omega, fun cc H6 e0 e1' b6 h6 => ?_⟩
      obtain ⟨cn, rfl⟩ : ∃ j : Nat, cc = j := ⟨cc.toNat, by omega⟩
      have k6 : Kx [p] H H6 := k5.trans (.but b6 (by simp))
      have pre6 := pre5.kx h5 (.but b6 (by simp))
      ((try (conv => whnf)); repeat (first | (refine cndT rfl ?_; (try (conv => whnf))) | (refine cndF rfl ?_; (try (conv => whnf)))))
      refine ⟨p, n, cn, rfl, h6, rfl, by omega, by omega, rfl, by omega, fun lp ts ps H7 nlp7 k7 h7 e7 pts hpnd hps hple => ?_⟩
      have pre7 := pre6.kx h6 k7
      have nlplt : lp ≠ lt := by
        obtain ⟨u, hu, _⟩ := pre6.ti
        exact (ne_of_none hu nlp7).symm
      have nlpp : lp ≠ p := (ne_n h6.ne nlp7).symm
      refine .inl ⟨_, SqL.of e7, ?_⟩
      refine forL (SqL.of e7) (fun i σ H' => Kx [p] H H' ∧ PrO H' p ∧ H' lp = some (.lst (ts.map V.ref)) ∧ Paired (isPr H') ts ps ∧ (∃ ti, PreO H' ln D lt ⟨nm, ws, ti⟩ n ∧ ti.map Prod.fst = ps.take i) ∧ ∃ v9 va vb : Option V, σ = [some (.ref p), some (.int n), some (.ref ln), some (.int kd2), some (.ref D), some (.ref lt), none, none, none, v9, va, vb, none]) ⟨k6.trans k7, h7, e7, pts, ⟨[], pre7, rfl⟩, _, _, _, rfl⟩ ?_ ?_ ?_
      · rintro i σ H' _ ⟨_, _, h1, _⟩
        exact SqL.of h1
      · clear pre7 pts e7 h7
        rintro i y σ H8 hy ⟨k8, h8, e8, pts8, ⟨ti, pre8, hti⟩, v9, va, vb, rfl⟩
        rw [List.getElem?_map] at hy
        obtain ⟨t, ht, rfl⟩ := Option.map_eq_some_iff.mp hy
        obtain ⟨e, he, het⟩ := paired_get pts8 ht
        obtain ⟨hlt1, hlt2⟩ := hps e (List.mem_of_getElem? he)
        have het : H8 t = some (.tup [.int e.1, .int e.2]) := het
        have hil : i < ps.length := (List.getElem?_eq_some_iff.mp he).1
        refine ⟨t, _, rfl, SqT.of het, rfl, _, _, rfl, _, _, rfl, rfl, ?_⟩
        obtain ⟨ts2, hl2, pt2⟩ := pre8.ti
        have hll := Paired.length pt2
        have hil2 : ti.length = i := by
          have := congrArg List.length hti
          rw [List.length_map, List.length_take] at this
          omega
        ((try (conv => whnf)); repeat (first | (refine cndT rfl ?_; (try (conv => whnf))) | (refine cndF rfl ?_; (try (conv => whnf)))))
        refine ⟨.inl ⟨rfl, _, SqL.of hl2⟩, ?_⟩
        ((try (conv => whnf)); repeat (first | (refine cndT rfl ?_; (try (conv => whnf))) | (refine cndF rfl ?_; (try (conv => whnf)))))
        refine ⟨p, kd2, 5000000, rfl, h8, rfl, c0, c1, rfl, by decide, by decide, fun w H9 w0 w1 k9 h9 => ?_⟩
        have pre9 := pre8.kx h8 k9
        have hl29 := k9.pr h8 hl2 prB_lst
        have pts9 : Paired (isPr H9) ts ps := Paired.mapP pts8 fun t e ht => k9.pr h8 ht prB_tup
        have e9 := k9.pr h8 e8 prB_lst
        have pt29 : Paired (isTI H9) ts2 ti := Paired.mapP pt2 fun t e ht => k9.pr h8 ht prB_tup
        ((try (conv => whnf)); repeat (first | (refine cndT rfl ?_; (try (conv => whnf))) | (refine cndF rfl ?_; (try (conv => whnf)))))
        refine ⟨by show 3 ≤ sizeLine; decide, ?_⟩
        (intro t9 nt9; generalize hG : _root_.L2.upd _ t9 _ = Ha; have sa := sameOf nt9 hG; have ea := atOf hG; clear hG; ((try (conv => whnf)); repeat (first | (refine cndT rfl ?_; (try (conv => whnf))) | (refine cndF rfl ?_; (try (conv => whnf))))))
        have hll' : ts2.length = i := hll.trans hil2
        refine ⟨lt, _, _, rfl, rfl, sa _ _ hl29, by rw [List.length_map, sizeLine_eq]; omega, ?_⟩
        have hla := sa _ _ hl29
        (generalize hG : _root_.L2.upd _ lt _ = Hb; have bb := butOf hG; have eb := atOf hG; clear hG; ((try (conv => whnf)); repeat (first | (refine cndT rfl ?_; (try (conv => whnf))) | (refine cndF rfl ?_; (try (conv => whnf))))))
        have eb' : Hb lt = some (.lst ((ts2 ++ [t9]).map V.ref)) := by
          rw [eb, List.map_append]
          rfl
        have ntl : ∀ {t' : Addr} {o : List V}, Ha t' = some (.tup o) → t' ≠ lt := fun e => nek e hla (fun z => by cases z)
        refine ⟨fun b o hb e => bb.at (sa _ _ (k9 _ _ hb (k8 _ _ hb e))) (ne_n (some_ne e) nltH), (h9.same sa).but bb nltp.symm, bb.at (sa _ _ e9) nlplt, Paired.mapP pts9 fun t' e ht => bb.at (sa _ _ ht) (ntl (sa _ _ ht)), ⟨ti ++ [(e, w)], ⟨bb.at (sa _ _ pre9.nm) nltln.symm, bb.at (sa _ _ pre9.ws) nltD.symm, ⟨ts2 ++ [t9], eb', Paired.snoc (Paired.mapP pt29 fun t' e ht => bb.at (sa _ _ ht) (ntl (sa _ _ ht))) (bb.at ea (ntl ea))⟩, hnd, hgood, hlen, hwl, hwr, ?_, fun f hf => ?_, ?_⟩, ?_⟩, _, _, _, rfl⟩
        · rw [List.map_append]
          show (ti.map Prod.fst ++ [e]).Nodup
          rw [hti, show ps.take i ++ [e] = ps.take (i + 1) by rw [List.take_add_one, he]; rfl]
          exact hpnd.sublist (List.take_sublist _ _)
        · rcases List.mem_append.mp hf with hf | hf
          · exact pre9.tr f hf
          · rw [List.mem_singleton.mp hf]
            exact ⟨hlt1, by show e.2 < nm.length; omega, w0, w1⟩
        · rw [List.length_append]
          show ti.length + 1 ≤ 179
          omega
        · rw [List.map_append]
          show ti.map Prod.fst ++ [e] = _
          rw [hti, List.take_add_one, he]
          rfl
      · rintro σ H8 ⟨k8, h8, e8, pts8, ⟨ti, pre8, hti⟩, v9, va, vb, rfl⟩
        exact ⟨k8, h8, ⟨ti, pre8⟩, _, _, _, rfl⟩
    · ((try (conv => whnf)); repeat (first | (refine cndT rfl ?_; (try (conv => whnf))) | (refine cndF rfl ?_; (try (conv => whnf)))))
      exact ⟨k5, h5, ⟨[], pre5⟩, _, _, _, rfl⟩
  · rintro σ' H6 ⟨k6, h6, ⟨ti, pre6⟩, v9, va, vb, rfl⟩
    exact tail_web_ok (H := H) wk k6 h6 pre6 hn nln nDH nltH hp.ne fun T x wp wq W H' nx nwp nwq k' h' eT mo => q T x wp wq ln D lt _ W H' nx nwp nwq nln nDH nltH k' h' eT mo hlen (fun e he => (pre6.tr e he).2.2.2)

end Wk27
namespace Wk27
open PySem L2 PySem.Spec PyProof.Rows Rf
theorem slLs {K : PySem.W.Frag} {H : Hp} {p : Addr} {xs : List V} {lo hi : Option Int} {Q : VK} (h : SqL K H p xs) (q : ∀ a, H a = none → Q (.ref a) (L2.upd H a (.lst (cutV xs lo hi)))) : rSlU K (.ref p) lo hi H Q := by
  unfold rSlU
  exact .inl ⟨p, xs, rfl, h, q⟩
theorem cut_from {xs : List V} {k : Nat} (h : k ≤ xs.length) : cutV xs (some (k : Int)) none = xs.drop k := by
  unfold cutV
  rw [HT.sIx_nat]
  have e : HT.sIx xs.length xs.length none = xs.length := rfl
  rw [e, Nat.min_eq_left h, List.take_of_length_le (by rw [List.length_drop]; exact Nat.le_refl _)]
theorem cut_to {xs : List V} {k : Nat} (h : k ≤ xs.length) : cutV xs none (some (k : Int)) = xs.take k := by
  unfold cutV
  rw [HT.sIx_nat]
  have e : HT.sIx xs.length 0 none = 0 := rfl
  rw [e, Nat.min_eq_left h, List.drop_zero, Nat.sub_zero]
theorem paired_drop {α β : Type} {F : α → β → Prop} : ∀ (k : Nat) {xs : List α} {ys : List β}, Paired F xs ys → Paired F (xs.drop k) (ys.drop k)
  | 0, _, _, p => p
  | _ + 1, _, _, .nil => .nil
  | k + 1, _, _, .cons _ t => paired_drop k t
theorem paired_take {α β : Type} {F : α → β → Prop} : ∀ (k : Nat) {xs : List α} {ys : List β}, Paired F xs ys → Paired F (xs.take k) (ys.take k)
  | 0, _, _, _ => .nil
  | _ + 1, _, _, .nil => .nil
  | k + 1, _, _, .cons r t => .cons r (paired_take k t)
theorem paired_app {α β : Type} {F : α → β → Prop} {xs xs' : List α} {ys ys' : List β} (p : Paired F xs ys) (q : Paired F xs' ys') : Paired F (xs ++ xs') (ys ++ ys') := by
  induction p with
  | nil => exact q
  | cons r _ ih => exact .cons r ih
theorem zip_maps {α β γ δ : Type} (f : α → γ) (g : β → δ) : ∀ (l : List α) (m : List β), (l.map f).zip (m.map g) = (l.zip m).map fun p => (f p.1, g p.2)
  | [], _ => rfl
  | _ :: _, [] => rfl
  | a :: l, b :: m => by
    show (f a, g b) :: (l.map f).zip (m.map g) = _
    rw [zip_maps f g l m]
    rfl
theorem paired_unmap {α β γ : Type} {R : α → γ → Prop} {g : β → γ} : ∀ {l : List α} {m : List β}, Paired R l (m.map g) → Paired (fun a b => R a (g b)) l m
  | _, [], h => by
    cases h
    exact .nil
  | _, b :: m, h => by
    rw [List.map_cons] at h
    cases h with
    | cons r t => exact .cons r (paired_unmap t)
def isSI (H : Hp) (t : Addr) (e : Str × Int) : Prop := H t = some (.tup [.str e.1, .int e.2])
theorem pure_l_cutting {K a b c H Q E} (h : P_l_cutting K a b c H Q E) : t_l_cutting K E { nx := fun _ H' => Q .non H', rt := Q } [some a, some b, some c, none, none, none, none, none] H := by
  obtain ⟨p, ln, nm, n, rfl, hp, rfl, hln, hnd, hlen, rfl, n1, n2, q⟩ := h
  ((try (conv => whnf)); repeat (first | (refine cndT rfl ?_; (try (conv => whnf))) | (refine cndF rfl ?_; (try (conv => whnf)))))
  left
  (intro d nd; generalize hG : _root_.L2.upd _ d _ = H1; have s1 := sameOf nd hG; have e1 := atOf hG; clear hG; ((try (conv => whnf)); repeat (first | (refine cndT rfl ?_; (try (conv => whnf))) | (refine cndF rfl ?_; (try (conv => whnf))))))
  have ndp : d ≠ p := (ne_n hp.ne nd).symm
  have ndl : d ≠ ln := (ne_of_none hln nd).symm
  left
  refine ⟨_, SqL.of (s1 _ _ hln), ?_⟩
  rw [List.length_map]
  ((try (conv => whnf)); repeat (first | (refine cndT rfl ?_; (try (conv => whnf))) | (refine cndF rfl ?_; (try (conv => whnf)))))
  refine ⟨p, (nm.length : Int) + 1, rfl, hp.same s1, rfl, by omega, by omega, fun at_ H2 a0 a1 b2 h2 => ?_⟩
  obtain ⟨k, rfl⟩ : ∃ j : Nat, at_ = j := ⟨at_.toNat, by omega⟩
  have hk : k ≤ nm.length := by omega
  have k2 : Kx [p] H H2 := (Kx.same s1).trans (.but b2 (by simp))
  have hln2 := (Kx.but (S := [p]) b2 (by simp)).pr (hp.same s1) (s1 _ _ hln) prB_lst
  have e2 : H2 d = some (.dK (emb kS [])) := b2.at e1 ndp
  ((try (conv => whnf)); repeat (first | (refine cndT rfl ?_; (try (conv => whnf))) | (refine cndF rfl ?_; (try (conv => whnf)))))
  left
  ((try (conv => whnf)); repeat (first | (refine cndT rfl ?_; (try (conv => whnf))) | (refine cndF rfl ?_; (try (conv => whnf)))))
  refine .inl ⟨_, SqL.of hln2, ?_⟩
  refine lcIt walk_list fun D hD => ⟨fun i Hh => Kx [p] H2 Hh ∧ PrO Hh p ∧ ∃ acc : List Int, Hh D = some (.lst (acc.map V.int)) ∧ acc.length = i ∧ ∀ w ∈ acc, 0 ≤ w ∧ w < n, ⟨Kx.same (Same.new (Same.refl _) hD), h2.upd (ne_n h2.ne hD), [], upd_same, rfl, fun z hz => by cases hz⟩, fun i Hh hi hpv => SqL.of (hpv.1.pr h2 hln2 prB_lst), fun i x H3 H4 hi hpv y => ?_, fun H3 hpv => ?_⟩
  · obtain ⟨kx, hpu, acc, hacc, hal, hac⟩ := hpv
    obtain ⟨rfl, _⟩ := y
    refine ⟨rfl, ?_⟩
    ((try (conv => whnf)); repeat (first | (refine cndT rfl ?_; (try (conv => whnf))) | (refine cndF rfl ?_; (try (conv => whnf)))))
    refine ⟨p, n, rfl, hpu, rfl, by omega, by omega, fun w H5 w0 w1 b5 h5 => ?_⟩
    have nDp : D ≠ p := (ne_n h2.ne hD).symm
    have hacc5 := b5.at hacc nDp
    refine ⟨_, hacc5, by rw [List.length_map, sizeLine_eq]; rw [List.length_map] at hi; omega, (kx.trans (.but b5 (by simp))).new hD, h5.upd nDp.symm, acc ++ [w], by rw [upd_same, List.map_append]; rfl, by rw [List.length_append, hal]; rfl, fun z hz => ?_⟩
    rcases List.mem_append.mp hz with hz | hz
    · exact hac z hz
    · rw [List.mem_singleton.mp hz]
      exact ⟨w0, w1⟩
  obtain ⟨kx, h3, told, htold, htl, htr⟩ := hpv
  rw [List.length_map] at htl
  have nDH : H D = none := k2.none hD (fun b hb => by rw [List.mem_singleton.mp hb]; exact h2.ne)
  have nDd : D ≠ d := (ne_of_none e2 hD).symm
  have e3 : H3 d = some (.dK (emb kS [])) := kx _ _ (by simp; exact ndp) e2
  have hln3 := kx.pr h2 hln2 prB_lst
  have k3 := k2.trans kx
  unfold tLZ
  ((try (conv => whnf)); repeat (first | (refine cndT rfl ?_; (try (conv => whnf))) | (refine cndF rfl ?_; (try (conv => whnf)))))
  refine ⟨ln, D, _, _, rfl, SqL.of hln3, SqL.of htold, by rw [List.length_map, List.length_map, htl], fun H4 l1 ts1 s4 nl1 nt1 nm1 hl1 hp1 => ?_⟩
  ((try (conv => whnf)); repeat (first | (refine cndT rfl ?_; (try (conv => whnf))) | (refine cndF rfl ?_; (try (conv => whnf)))))
  have hzl : (nm.zip told).length = nm.length := by rw [List.length_zip, htl, Nat.min_self]
  have hts1 : ts1.length = nm.length := by
    have := Paired.length hp1
    rw [List.length_zip, List.length_map, List.length_map, htl, Nat.min_self] at this
    exact this
  refine ⟨_, rfl, ?_⟩
  refine slLs (SqL.of hl1) fun l1' nl1' => ?_
  generalize hG : L2.upd _ l1' _ = H5
  have s5 := sameOf nl1' hG
  have e5 := atOf hG
  clear hG
  rw [cut_from (by rw [List.length_map, hts1]; exact hk), ← List.map_drop] at e5
  have s35 := Same.trans s4 s5
  ((try (conv => whnf)); repeat (first | (refine cndT rfl ?_; (try (conv => whnf))) | (refine cndF rfl ?_; (try (conv => whnf)))))
  refine ⟨ln, D, _, _, rfl, SqL.of (s35 _ _ hln3), SqL.of (s35 _ _ htold), by rw [List.length_map, List.length_map, htl], fun H6 l2 ts2 s6 nl2 nt2 nm2 hl2 hp2 => ?_⟩
  have hts2 : ts2.length = nm.length := by
    have := Paired.length hp2
    rw [List.length_zip, List.length_map, List.length_map, htl, Nat.min_self] at this
    exact this
  ((try (conv => whnf)); repeat (first | (refine cndT rfl ?_; (try (conv => whnf))) | (refine cndF rfl ?_; (try (conv => whnf)))))
  refine ⟨_, rfl, ?_⟩
  refine slLs (SqL.of hl2) fun l2' nl2' => ?_
  generalize hG : L2.upd _ l2' _ = H7
  have s7 := sameOf nl2' hG
  have e7 := atOf hG
  clear hG
  rw [cut_to (by rw [List.length_map, hts2]; exact hk), ← List.map_take] at e7
  have s57 := Same.trans s6 s7
  refine .inl ⟨l1', l2', _, _, rfl, rfl, s57 _ _ e5, e7, by rw [List.length_map, List.length_map, List.length_drop, List.length_take, sizeLine_eq]; omega, fun l3 nl3 => ?_⟩
  generalize hG : L2.upd _ l3 _ = H8
  have s8 := sameOf nl3 hG
  have e8 := atOf hG
  clear hG
  rw [← List.map_append] at e8
  have s38 : Same H3 H8 := (s35.trans s57).trans s8
  have pt8 : Paired (isSI H8) (ts1.drop k ++ ts2.take k) ((nm.zip told).drop k ++ (nm.zip told).take k) := by
    rw [zip_maps] at hp1 hp2
    refine paired_app (paired_drop k (Paired.mapP (paired_unmap hp1) fun t e ht => s8 _ _ (s57 _ _ (s5 _ _ ht)))) (paired_take k (Paired.mapP (paired_unmap hp2) fun t e ht => s8 _ _ (s7 _ _ ht)))
  generalize hTS : ts1.drop k ++ ts2.take k = TS at e8 pt8
  have hLp : ((nm.zip told).drop k ++ (nm.zip told).take k).Perm (nm.zip told) := by
    refine List.perm_append_comm.trans ?_
    rw [List.take_append_drop]
  generalize hL : (nm.zip told).drop k ++ (nm.zip told).take k = L at pt8 hLp
  have hLk : (L.map Prod.fst).Nodup := by
    have := hLp.map Prod.fst
    rw [zip_fst htl] at this
    exact this.nodup_iff.mpr hnd
  have hLl : L.length ≤ 60 := by
    have := hLp.length_eq
    omega
  refine .inl ⟨_, SqL.of e8, ?_⟩
  have h8 := h3.same s38
  have nl3d : l3 ≠ d := (ne_of_none ((s35.trans s57) _ _ e3) nl3).symm
  have nDl3 : D ≠ l3 := ne_of_none ((s35.trans s57) _ _ htold) nl3
  have k8 : Kx [p] H H8 := k3.trans (.same s38)
  refine forL (SqL.of e8) (fun i σ H' => Kx [p] H H' ∧ PrO H' p ∧ H' l3 = some (.lst (TS.map V.ref)) ∧ Paired (isSI H') TS L ∧ H' D = some (.lst (told.map V.int)) ∧ H' d = some (.dK (emb kS (L.take i))) ∧ ∃ v6 v7 : Option V, σ = [some (.ref p), some (.ref ln), some (.int n), some (.ref d), some (.int k), some (.ref D), v6, v7]) ⟨k8, h8, e8, pt8, s38 _ _ htold, s38 _ _ e3, _, _, rfl⟩ ?_ ?_ ?_
  · rintro i σ H' _ ⟨_, _, h1, _⟩
    exact SqL.of h1
  · clear pt8 h8 k8
    rintro i y σ H9 hy ⟨k9, h9, el9, pt9, et9, ed9, v6, v7, rfl⟩
    rw [List.getElem?_map] at hy
    obtain ⟨t, ht, rfl⟩ := Option.map_eq_some_iff.mp hy
    obtain ⟨e, he, het⟩ := paired_get pt9 ht
    have het : H9 t = some (.tup [.str e.1, .int e.2]) := het
    have hi := (List.getElem?_eq_some_iff.mp he).1
    refine ⟨t, _, rfl, SqT.of het, rfl, _, _, rfl, _, _, rfl, rfl, ?_⟩
    ((try (conv => whnf)); repeat (first | (refine cndT rfl ?_; (try (conv => whnf))) | (refine cndF rfl ?_; (try (conv => whnf)))))
    refine setD rfl (DPut.k (k := kS e.1) ed9 (by rw [emb_len, List.length_take, sizeLine_eq]; omega)) ?_
    (generalize hG : _root_.L2.upd _ d _ = Ha; have ba := butOf hG; have ea := atOf hG; clear hG; ((try (conv => whnf)); repeat (first | (refine cndT rfl ?_; (try (conv => whnf))) | (refine cndF rfl ?_; (try (conv => whnf))))))
    have hnone : getA (L.take i) e.1 = none := getA_key (by
      have := nodup_at hLk he
      exact this)
    rw [emb_put kS_inj, getA_app hnone] at ea
    refine ⟨fun b o hb eo => ba.at (k9 _ _ hb eo) (ne_n (some_ne eo) nd), h9.but ba ndp.symm, ba.at el9 nl3d, Paired.mapP pt9 fun t e ht => ba.at ht (nek ht ed9 (fun z => by cases z)), ba.at et9 nDd, ?_, _, _, rfl⟩
    rw [ea, List.take_add_one, he]
    rfl
  · rintro σ H9 ⟨k9, h9, el9, pt9, et9, ed9, v6, v7, rfl⟩
    rw [List.length_map, Paired.length pt9, List.take_of_length_le (Nat.le_refl _)] at ed9
    ((try (conv => whnf)); repeat (first | (refine cndT rfl ?_; (try (conv => whnf))) | (refine cndF rfl ?_; (try (conv => whnf)))))
    refine ⟨by show 2 ≤ sizeLine; decide, ?_⟩
    (intro T nT; generalize hG : _root_.L2.upd _ T _ = Ha; have sa := sameOf nT hG; have ea := atOf hG; clear hG; ((try (conv => whnf)); repeat (first | (refine cndT rfl ?_; (try (conv => whnf))) | (refine cndF rfl ?_; (try (conv => whnf))))))
    exact q T d D L told Ha nd nDH (k9.trans (.same sa)) (h9.same sa) ea (sa _ _ ed9) (sa _ _ et9) htl htr hLp

end Wk27
namespace Wk27
open PySem L2 PySem.Spec PyProof.Rows Rf
theorem BadQ.same {K H H' a b c E} (h : BadQ K H a b c E) (s : Same H H') : BadQ K H' a b c E := by
  obtain ⟨x, wp, wq, W, n, h1, h2, h3, h4, h5, h6⟩ := h
  exact ⟨x, wp, wq, W, n, h1, h2.same s, h3, h4, h5.same s, fun H2 s2 => h6 H2 (s.trans s2)⟩
theorem AskO.same {K H H' x wp wq cd W n kv} (h : AskO K H x wp wq cd W n kv) (s : Same H H') : AskO K H' x wp wq cd W n kv := ⟨h.web.same s, h.nd, h.hl, h.kl, h.ends, s _ _ h.cd, h.ck⟩
theorem lcObjF {J : It} {n : Nat} {G : Hp → Prop} {Y : Nat → Hp → V → Hp → Prop} (w : Walk J n G Y) {β : Type} (obj : β → HO) (ho : ∀ z xs, obj z ≠ .lst xs) {g : TG} {tt : TT} {te : TE} {vs : List Nat} {σ : L2.St} {H1 : Hp} {Q : VK} (acc : Nat → List β) (ha : acc 0 = []) (hl : ∀ i, i < n → (acc i).length < sizeLine) (hG : ∀ H, Same H1 H → G H)
    (hs : ∀ i x H H', i < n → Same H1 H → Y i H x H' → ∀ (R : VK) (R' : Hp → Prop), (∀ t z H4, Same H H4 → H4 t = some (obj z) → acc (i + 1) = acc i ++ [z] → R (.ref t) H4) → (∀ H4, Same H H4 → acc (i + 1) = acc i → R' H4) →
      g x (wipe σ vs) H' fun σ2 H2 => wipe σ2 vs = wipe σ vs ∧ tt σ2 H2 fun b H3 => cnd b (te σ2 H3 R) (R' H3))
    (hd : ∀ D ts H, H1 D = none → H D = some (.lst (ts.map V.ref)) → Same H1 H → Paired (fun t z => H t = some (obj z)) ts (acc n) → Q (.ref D) H) : lcU J g tt te vs σ H1 Q := by
  refine lcIt w fun D hD => ⟨fun i H => Same H1 H ∧ ∃ ts : List Addr, H D = some (.lst (ts.map V.ref)) ∧ Paired (fun t z => H t = some (obj z)) ts (acc i), ⟨Same.new (Same.refl _) hD, [], upd_same, by rw [ha]; exact .nil⟩, fun i H _ p => hG H p.1, fun i x H H' hi p y => ?_, fun H p => ?_⟩
  · obtain ⟨s1, ts, hts, hp⟩ := p
    refine hs i x H H' hi s1 y _ _ (fun t z H4 s et e => ⟨_, s _ _ hts, ?_, Same.upd (fun b u k => s _ _ (s1 b u k)) hD, ts ++ [t], ?_, ?_⟩) (fun H4 s e => ⟨fun b u k => s _ _ (s1 b u k), ts, s _ _ hts, ?_⟩)
    · rw [List.length_map, Paired.length hp]; exact hl i hi
    · rw [upd_same, List.map_append]; rfl
    · rw [e]
      refine Paired.snoc (Paired.mapP hp fun a b hab => ?_) ?_
      · have h2 := s _ _ hab
        rw [upd_ne (fun c => by rw [c, s _ _ hts] at h2; exact ho _ _ (Option.some.inj h2).symm)]
        exact h2
      · rw [upd_ne (fun c => by rw [c, s _ _ hts] at et; exact ho _ _ (Option.some.inj et).symm)]
        exact et
    · rw [e]
      exact Paired.mapP hp fun a b hab => s _ _ hab
  · obtain ⟨s1, ts, hts, hp⟩ := p
    exact hd D ts H hD hts s1 hp
theorem told_in {K H x wp wq cd W n kv} (h : AskO K H x wp wq cd W n kv) : ∀ e ∈ W.kn.map (tieT W), e.1.1 ∈ W.hv.map Prod.fst ∧ e.1.2 ∈ W.hv.map Prod.fst := by
  intro e he
  obtain ⟨f, hf, rfl⟩ := List.mem_map.mp he
  obtain ⟨h1, h2⟩ := h.ends f hf
  have pl : ∀ z, isPl W z → z ∈ W.hv.map Prod.fst := fun z hz => by
    obtain ⟨u, hu, rfl⟩ := getA_memK hz
    exact List.mem_map.mpr ⟨u, hu, rfl⟩
  unfold tieT
  split
  · exact ⟨pl _ h1, pl _ h2⟩
  · exact ⟨pl _ h2, pl _ h1⟩
theorem pure_cut_tiesG {K a b c H Q E} (h : P_cut_tiesG K a b c H Q E) : t_cut_ties K E { nx := fun _ H' => Q .non H', rt := Q } [some a, some b, some c, none, none, none] H := by
  obtain ⟨x, wp, wq, cd, W, n, kv, ask, rfl, rfl, rfl, k⟩ := h
  have hin := told_in ask
  obtain ⟨dx, ho⟩ := ask.web.o
  ((try (conv => whnf)); repeat (first | (refine cndT rfl ?_; (try (conv => whnf))) | (refine cndF rfl ?_; (try (conv => whnf)))))
  refine ⟨x, wp, wq, W, n, rfl, ⟨ask.web, ask.hl, ask.nd⟩, rfl, .inl ⟨kv, ⟨cd, rfl, ask.cd, ask.ck⟩, fun H1 s1 => ?_⟩⟩
  ((try (conv => whnf)); repeat (first | (refine cndT rfl ?_; (try (conv => whnf))) | (refine cndF rfl ?_; (try (conv => whnf)))))
  left
  ((try (conv => whnf)); repeat (first | (refine cndT rfl ?_; (try (conv => whnf))) | (refine cndF rfl ?_; (try (conv => whnf)))))
  refine ⟨x, dx, _, rfl, s1 _ _ ho, webF_n (by decide +kernel) (by decide +kernel), ?_⟩
  ((try (conv => whnf)); repeat (first | (refine cndT rfl ?_; (try (conv => whnf))) | (refine cndF rfl ?_; (try (conv => whnf)))))
  refine ⟨x, wp, wq, W, rfl, ask.web.same s1, ask.nd, ask.hl, ask.kl, ask.ends, fun lt ts H2 nlt s2 hlt pts => ?_⟩
  generalize hT : W.kn.map (tieT W) = T at hin pts k
  have htl := Paired.length pts
  have hTl : T.length ≤ 200 := by rw [← hT, List.length_map]; exact ask.kl
  have hcd2 := s2 _ _ (s1 _ _ ask.cd)
  refine .inl ⟨_, SqL.of hlt, ?_⟩
  refine lcObjF walk_list (fun e : (Str × Str) × Int => HO.tup [.str e.1.1, .str e.1.2, .int e.2]) (fun z xs c => by cases c) (fun i => (T.take i).filter (cutB kv)) rfl (fun i hi => ?_) (fun H1 s => SqL.of (s _ _ hlt)) (fun i y H3 H4 hi s y' R R' r r' => ?_) (fun D ts2 H3 hDn hD s pts2 => ?_)
  · have := List.length_filter_le (cutB kv) (T.take i)
    rw [List.length_take] at this
    rw [sizeLine_eq]
    omega
  · obtain ⟨rfl, hx⟩ := y'
    rw [List.getElem?_map] at hx
    obtain ⟨t, ht, rfl⟩ := Option.map_eq_some_iff.mp hx
    obtain ⟨e, he, het⟩ := paired_get pts ht
    have hm := List.mem_of_getElem? he
    obtain ⟨h1, h2⟩ := hin e hm
    obtain ⟨c1, hc1, _⟩ := ask.ck.get h1
    obtain ⟨c2, hc2, _⟩ := ask.ck.get h2
    have g1 := DGet.k (k := kS e.1.1) (s _ _ hcd2)
    rw [emb_val kS_inj, hc1] at g1
    have g2 := DGet.k (k := kS e.1.2) (s _ _ hcd2)
    rw [emb_val kS_inj, hc2] at g2
    have e1 : T.take (i + 1) = T.take i ++ [e] := by rw [List.take_add_one, he]; rfl
    have hb : cutB kv e = !decide (c1 = c2) := by
      unfold cutB
      rw [hc1, hc2]
      simp
    refine ⟨t, _, rfl, SqT.of (s _ _ het), rfl, _, _, rfl, _, _, rfl, _, _, rfl, rfl, ?_⟩
    refine ⟨rfl, ?_⟩
    ((try (conv => whnf)); repeat (first | (refine cndT rfl ?_; (try (conv => whnf))) | (refine cndF rfl ?_; (try (conv => whnf)))))
    refine ixD g1 ?_
    refine ixD g2 ?_
    ((try (conv => whnf)); repeat (first | (refine cndT rfl ?_; (try (conv => whnf))) | (refine cndF rfl ?_; (try (conv => whnf)))))
    rw [← hb]
    refine cndB (fun c => ?_) (fun c => ?_)
    · ((try (conv => whnf)); repeat (first | (refine cndT rfl ?_; (try (conv => whnf))) | (refine cndF rfl ?_; (try (conv => whnf)))))
      refine ⟨by show 3 ≤ sizeLine; decide, ?_⟩
      (intro t2 nt2; generalize hG : _root_.L2.upd _ t2 _ = H5; have s5 := sameOf nt2 hG; have e5 := atOf hG; clear hG; ((try (conv => whnf)); repeat (first | (refine cndT rfl ?_; (try (conv => whnf))) | (refine cndF rfl ?_; (try (conv => whnf))))))
      refine r t2 e H5 s5 e5 ?_
      rw [e1, List.filter_append]
      simp [List.filter, c]
    · refine r' _ (Same.refl _) ?_
      rw [e1, List.filter_append]
      simp [List.filter, c]
  · rw [List.length_map, htl, List.take_of_length_le (Nat.le_refl _)] at pts2
    ((try (conv => whnf)); repeat (first | (refine cndT rfl ?_; (try (conv => whnf))) | (refine cndF rfl ?_; (try (conv => whnf)))))
    exact k D ts2 H3 ((s1.trans s2).free hDn) ((s1.trans s2).trans s) hD pts2
theorem pure_cut_ties {K a b c H Q E} (h : P_cut_ties K a b c H Q E) : t_cut_ties K E { nx := fun _ H' => Q .non H', rt := Q } [some a, some b, some c, none, none, none] H := by
  rcases h with h | h
  · obtain ⟨x, wp, wq, W, n, h1, h2, h3, h4, h5, h6⟩ := h
    ((try (conv => whnf)); repeat (first | (refine cndT rfl ?_; (try (conv => whnf))) | (refine cndF rfl ?_; (try (conv => whnf)))))
    exact ⟨x, wp, wq, W, n, h1, h2, h3, .inr ⟨h4, h5, h6⟩⟩
  · exact pure_cut_tiesG h
theorem pure_cut_strength {K a b c H Q E} (h : P_cut_strength K a b c H Q E) : t_cut_strength K E { nx := fun _ H' => Q .non H', rt := Q } [some a, some b, some c, none, none, none] H := by
  ((try (conv => whnf)); repeat (first | (refine cndT rfl ?_; (try (conv => whnf))) | (refine cndF rfl ?_; (try (conv => whnf)))))
  left
  ((try (conv => whnf)); repeat (first | (refine cndT rfl ?_; (try (conv => whnf))) | (refine cndF rfl ?_; (try (conv => whnf)))))
  exact .inl h

end Wk27
namespace Wk27
open PySem L2 PySem.Spec PyProof.Rows Rf
theorem wSum_snoc {hv : List (Str × Int)} {e : Str × Int} {f : Str → Int} {j : Nat} : wSum (hv ++ [e]) f j = wSum hv f j + (if f e.1 = (j : Int) then e.2 else 0) := by
  unfold wSum
  rw [List.map_append, List.sum_append]
  simp
theorem wRow_set {hv : List (Str × Int)} {e : Str × Int} {f : Str → Int} {n c : Nat} (hc : f e.1 = (c : Int)) (hn : c < n) : ((wRow hv f n).map V.int).set c (.int (wSum hv f c + e.2)) = (wRow (hv ++ [e]) f n).map V.int := by
  refine List.ext_getElem? fun j => ?_
  unfold wRow
  rw [List.getElem?_set]
  by_cases hj : c = j
  · subst hj
    rw [if_pos rfl, List.length_map, List.length_map, List.length_range, if_pos hn, List.getElem?_map, List.getElem?_map, List.getElem?_range hn]
    show some (V.int _) = some (V.int (wSum (hv ++ [e]) f c))
    rw [wSum_snoc, if_pos hc]
  · rw [if_neg hj, List.getElem?_map, List.getElem?_map, List.getElem?_map, List.getElem?_map]
    by_cases hl : j < n
    · rw [List.getElem?_range hl]
      show some (V.int (wSum hv f j)) = some (V.int (wSum (hv ++ [e]) f j))
      rw [wSum_snoc, if_neg (by rw [hc]; omega)]
      simp
    · rw [List.getElem?_eq_none (by rw [List.length_range]; omega)]
      rfl
theorem wRow_at {hv : List (Str × Int)} {f : Str → Int} {n c : Nat} (hn : c < n) : atI ((wRow hv f n).map V.int) (c : Int) = some (.int (wSum hv f c)) := atI_nat (by
  unfold wRow
  rw [List.getElem?_map, List.getElem?_map, List.getElem?_range hn]
  rfl)
theorem wRow_nil {f : Str → Int} {n : Nat} : (List.replicate n [V.int 0]).flatten = (wRow [] f n).map V.int := by
  unfold wRow
  refine List.ext_getElem? fun j => ?_
  have : (List.replicate n [V.int 0]).flatten = List.replicate n (V.int 0) := by
    induction n with
    | zero => rfl
    | succ n ih =>
      rw [List.replicate_succ, List.flatten_cons, ih, List.replicate_succ]
      rfl
  rw [this, List.getElem?_map, List.getElem?_map, List.getElem?_replicate]
  by_cases hl : j < n
  · rw [if_pos hl, List.getElem?_range hl]
    rfl
  · rw [if_neg hl, List.getElem?_eq_none (by rw [List.length_range]; omega)]
    rfl
theorem ixN_nat {n j : Nat} (h : j < n) : ixN n (j : Int) = some j := by
  unfold ixN
  simp [h]
theorem getLs {K : PySem.W.Frag} {p : Addr} {xs : List V} {i : Int} {v : V} {H : Hp} {Q : VK} (h : H p = some (.lst xs)) (e : atI xs i = some v) (q : Q v H) : rGetU K (.ref p) (.int i) H Q := by
  unfold rGetU
  exact .inl ⟨p, xs, i, v, rfl, rfl, SqL.of h, e, q⟩
theorem cF_at {nm : List Str} {kv : List (Str × Int)} {n : Nat} (ck : CutOk nm kv n) {z : Str} (hz : z ∈ nm) : ∃ c : Nat, getA kv z = some (c : Int) ∧ cF kv z = (c : Int) ∧ c < n := by
  obtain ⟨w, hw, h0, h1⟩ := ck.get hz
  refine ⟨w.toNat, ?_, ?_, by omega⟩
  · rw [hw, Int.toNat_of_nonneg h0]
  · unfold cF
    rw [hw, Int.toNat_of_nonneg h0]
    rfl
theorem wRow_len {hv f} {n : Nat} : ((wRow hv f n).map V.int).length = n := by
  unfold wRow
  rw [List.length_map, List.length_map, List.length_range]
theorem pure_part_weightsG {K a b c H Q E} (h : P_part_weightsG K a b c H Q E) : t_part_weights K E { nx := fun _ H' => Q .non H', rt := Q } [some a, some b, some c, none, none] H := by
  obtain ⟨x, wp, wq, cd, W, n, kv, ask, hn, rfl, rfl, rfl, k⟩ := h
  obtain ⟨dx, ho⟩ := ask.web.o
  ((try (conv => whnf)); repeat (first | (refine cndT rfl ?_; (try (conv => whnf))) | (refine cndF rfl ?_; (try (conv => whnf)))))
  refine ⟨x, wp, wq, W, n, rfl, ⟨ask.web, ask.hl, ask.nd⟩, rfl, .inl ⟨kv, ⟨cd, rfl, ask.cd, ask.ck⟩, fun H1 s1 => ?_⟩⟩
  ((try (conv => whnf)); repeat (first | (refine cndT rfl ?_; (try (conv => whnf))) | (refine cndF rfl ?_; (try (conv => whnf)))))
  refine ⟨by show 1 ≤ sizeLine; decide, ?_⟩
  (intro l0 nl0; generalize hG : _root_.L2.upd _ l0 _ = H2; have s2 := sameOf nl0 hG; have e2 := atOf hG; clear hG; ((try (conv => whnf)); repeat (first | (refine cndT rfl ?_; (try (conv => whnf))) | (refine cndF rfl ?_; (try (conv => whnf))))))
  refine ⟨l0, (n : Int), _, rfl, rfl, e2, by omega, by omega, ?_, ?_⟩
  · show 1 * ((n : Nat) : Int).toNat ≤ sizeLine
    rw [sizeLine_eq]
    omega
  (intro l nl; generalize hG : _root_.L2.upd _ l _ = H3; have s3 := sameOf nl hG; have e3 := atOf hG; clear hG; ((try (conv => whnf)); repeat (first | (refine cndT rfl ?_; (try (conv => whnf))) | (refine cndF rfl ?_; (try (conv => whnf))))))
  rw [Int.toNat_natCast, wRow_nil (f := cF kv)] at e3
  have s03 := (s1.trans s2).trans s3
  have nlH : H l = none := (s1.trans s2).free nl
  left
  ((try (conv => whnf)); repeat (first | (refine cndT rfl ?_; (try (conv => whnf))) | (refine cndF rfl ?_; (try (conv => whnf)))))
  refine ⟨x, dx, _, rfl, s03 _ _ ho, webF_n (by decide +kernel) (by decide +kernel), ?_⟩
  ((try (conv => whnf)); repeat (first | (refine cndT rfl ?_; (try (conv => whnf))) | (refine cndF rfl ?_; (try (conv => whnf)))))
  refine ⟨x, wp, wq, W, rfl, ask.web.same s03, fun lnm H4 nlnm s4 e4 => ?_⟩
  have s04 := s03.trans s4
  have nll : lnm ≠ l := (ne_of_none e3 nlnm).symm
  refine .inl ⟨_, SqL.of e4, ?_⟩
  refine forL (SqL.of e4) (fun i σ H' => Same H H' ∧ H' lnm = some (.lst (W.hv.map fun e => V.str e.1)) ∧ H' l = some (.lst ((wRow (W.hv.take i) (cF kv) n).map V.int)) ∧ ∃ v4 : Option V, σ = [some (.ref x), some (.int n), some (.ref cd), some (.ref l), v4]) ⟨s04, e4, s4 _ _ e3, _, rfl⟩ ?_ ?_ ?_
  · rintro i σ H' _ ⟨_, h1, _⟩
    exact SqL.of h1
  · rintro i y σ H5 hy ⟨s5, en5, el5, v4, rfl⟩
    rw [List.getElem?_map] at hy
    obtain ⟨e, he, rfl⟩ := Option.map_eq_some_iff.mp hy
    have hm : e.1 ∈ W.hv.map Prod.fst := List.mem_map.mpr ⟨e, List.mem_of_getElem? he, rfl⟩
    obtain ⟨c, hc, hcf, hcn⟩ := cF_at ask.ck hm
    have g := DGet.k (k := kS e.1) (s5 _ _ ask.cd)
    rw [emb_val kS_inj, hc] at g
    ((try (conv => whnf)); repeat (first | (refine cndT rfl ?_; (try (conv => whnf))) | (refine cndF rfl ?_; (try (conv => whnf)))))
    refine ixD g ?_
    refine getLs el5 (wRow_at hcn) ?_
    ((try (conv => whnf)); repeat (first | (refine cndT rfl ?_; (try (conv => whnf))) | (refine cndF rfl ?_; (try (conv => whnf)))))
    refine ⟨x, dx, _, rfl, s5 _ _ ho, webF_n (by decide +kernel) (by decide +kernel), ?_⟩
    ((try (conv => whnf)); repeat (first | (refine cndT rfl ?_; (try (conv => whnf))) | (refine cndF rfl ?_; (try (conv => whnf)))))
    refine ⟨x, wp, wq, W, e.1, e.2, rfl, (ask.web.same s5).r, rfl, getA_val' ask.nd he, ?_⟩
    ((try (conv => whnf)); repeat (first | (refine cndT rfl ?_; (try (conv => whnf))) | (refine cndF rfl ?_; (try (conv => whnf)))))
    refine setLk el5 (j := c) (ixN_nat (by rw [wRow_len]; exact hcn)) ?_
    (generalize hG : _root_.L2.upd _ l _ = H6; have b6 := butOf hG; have e6 := atOf hG; clear hG; ((try (conv => whnf)); repeat (first | (refine cndT rfl ?_; (try (conv => whnf))) | (refine cndF rfl ?_; (try (conv => whnf))))))
    rw [wRow_set hcf hcn] at e6
    refine ⟨fun b o eo => b6.at (s5 _ _ eo) (ne_n (some_ne eo) nlH), b6.at en5 nll, ?_, _, rfl⟩
    rw [e6, List.take_add_one, he]
    rfl
  · rintro σ H5 ⟨s5, en5, el5, v4, rfl⟩
    rw [List.length_map, List.take_of_length_le (Nat.le_refl _)] at el5
    ((try (conv => whnf)); repeat (first | (refine cndT rfl ?_; (try (conv => whnf))) | (refine cndF rfl ?_; (try (conv => whnf)))))
    exact k l H5 nlH s5 el5
theorem pure_part_weights {K a b c H Q E} (h : P_part_weights K a b c H Q E) : t_part_weights K E { nx := fun _ H' => Q .non H', rt := Q } [some a, some b, some c, none, none] H := by
  rcases h with h | h
  · obtain ⟨x, wp, wq, W, n, h1, h2, h3, h4, h5, h6⟩ := h
    ((try (conv => whnf)); repeat (first | (refine cndT rfl ?_; (try (conv => whnf))) | (refine cndF rfl ?_; (try (conv => whnf)))))
    exact ⟨x, wp, wq, W, n, h1, h2, h3, .inr ⟨h4, h5, h6⟩⟩
  · exact pure_part_weightsG h

end Wk27
namespace Wk27
open PySem L2 PySem.Spec PyProof.Rows Rf
theorem nRow_snoc {nm : List Str} {z : Str} {f : Str → Int} {j : Nat} : nRow (nm ++ [z]) f j = nRow nm f j ++ (if f z = (j : Int) then [z] else []) := by
  unfold nRow
  rw [List.filter_append]
  congr 1
  by_cases c : f z = (j : Int)
  · rw [if_pos c]; simp [List.filter, c]
  · rw [if_neg c]; simp [List.filter, c]
/-- the rows of names so far -/
structure NamG (H0 H : Hp) (l : Addr) (rs : List Addr) (nm : List Str) (f : Str → Int) (n : Nat) : Prop where
  o : NamO H l rs nm f n
  s : Same H0 H
  nd : rs.Nodup
  nl : H0 l = none
  nr : ∀ r ∈ rs, H0 r = none
  ne : l ∉ rs
theorem NamG.same {H0 H H' l rs nm f n} (h : NamG H0 H l rs nm f n) (s : Same H H') : NamG H0 H' l rs nm f n := ⟨⟨s _ _ h.o.l, h.o.ln, fun j r e => s _ _ (h.o.row j r e)⟩, h.s.trans s, h.nd, h.nl, h.nr, h.ne⟩
theorem NamG.low {Hb H0 H l rs nm f n} (h : NamG H0 H l rs nm f n) (s : Same Hb H0) : NamG Hb H l rs nm f n := ⟨h.o, s.trans h.s, h.nd, s.free h.nl, fun r hr => s.free (h.nr r hr), h.ne⟩
theorem NamG.but {H0 H H' l rs nm f n} {q : Addr} (h : NamG H0 H l rs nm f n) (b : But q H H') (n1 : q ≠ l) (n2 : q ∉ rs) (n3 : H0 q = none) : NamG H0 H' l rs nm f n :=
  ⟨⟨b.at h.o.l n1.symm, h.o.ln, fun j r e => b.at (h.o.row j r e) (fun x => n2 (x ▸ List.mem_of_getElem? e))⟩, fun c o ec => b.at (h.s _ _ ec) (ne_n (some_ne ec) n3), h.nd, h.nl, h.nr, h.ne⟩
theorem NamG.add {H0 H H' : Hp} {l rs nm f n} {z : Str} {c : Nat} {r : Addr} (h : NamG H0 H l rs nm f n) (hc : f z = (c : Int)) (hr : rs[c]? = some r) (b : But r H H') (e : H' r = some (.lst ((nRow nm f c).map V.str ++ [.str z]))) : NamG H0 H' l rs (nm ++ [z]) f n := by
  have hm := List.mem_of_getElem? hr
  refine ⟨⟨b.at h.o.l (fun e => h.ne (e ▸ hm)), h.o.ln, fun j q hq => ?_⟩, fun c o ec => b.at (h.s _ _ ec) (ne_n (some_ne ec) (h.nr r hm)), h.nd, h.nl, h.nr, h.ne⟩
  rw [nRow_snoc]
  by_cases ej : j = c
  · subst ej
    rw [hr] at hq
    cases hq
    rw [e, if_pos hc, List.map_append]
    rfl
  · have hne : q ≠ r := fun eq => by
      subst eq
      exact ej ((List.getElem?_inj (List.getElem?_eq_some_iff.mp hq).1 h.nd).mp (hq.trans hr.symm))
    rw [if_neg (by rw [hc]; omega), List.append_nil]
    exact b.at (h.o.row j q hq) hne
theorem NamG.at_ {H0 H l rs nm f n} (h : NamG H0 H l rs nm f n) {c : Nat} (hc : c < n) : ∃ r, rs[c]? = some r ∧ atI (rs.map V.ref) (c : Int) = some (.ref r) ∧ H r = some (.lst ((nRow nm f c).map V.str)) := by
  have hl : c < rs.length := by rw [h.o.ln]; exact hc
  have e := List.getElem?_eq_getElem hl
  exact ⟨rs[c], e, atI_nat (by rw [List.getElem?_map, e]; rfl), h.o.row c _ e⟩
theorem nRow_len {nm f j} : (nRow nm f j).length ≤ nm.length := List.length_filter_le _ _
/-- n empty lists gathered -/
theorem rows_new {K : PySem.W.Frag} {n : Nat} {H1 : Hp} {Q : VK} {f : Str → Int} {vs : List Nat} {g : TG} {σ : L2.St} (hn : n ≤ 60) (hg : ∀ (v : V) (H : Hp) (R : L2.St → Hp → Prop), (∀ σ2, wipe σ2 vs = wipe σ vs → R σ2 H) → g v (wipe σ vs) H R) (k : ∀ D rs H, NamG H1 H D rs [] f n → Q (.ref D) H) : lcU (Itr 0 ((n : Int) - 0).toNat) g tYes (tLst tNil) vs σ H1 Q := by
  refine lcIt walk_range fun D hD => ⟨fun i H => Same H1 H ∧ ∃ rs : List Addr, H D = some (.lst (rs.map V.ref)) ∧ rs.length = i ∧ rs.Nodup ∧ (∀ r ∈ rs, H r = some (.lst []) ∧ H1 r = none) ∧ D ∉ rs, ⟨Same.new (Same.refl _) hD, [], upd_same, rfl, .nil, (fun r hr => by cases hr), (fun h => by cases h)⟩, fun _ _ _ _ => trivial, fun i x H2 H3 hi hp y => ?_, fun H2 hp => ?_⟩
  · obtain ⟨s, rs, hrs, hl, hnd, hr, hne⟩ := hp
    obtain ⟨rfl, rfl⟩ := y
    have hi' : i < n := by
      have : i < ((n : Int) - 0).toNat := hi
      omega
    refine hg _ _ _ fun σ2 hσ => ⟨hσ, ?_⟩
    ((try (conv => whnf)); repeat (first | (refine cndT rfl ?_; (try (conv => whnf))) | (refine cndF rfl ?_; (try (conv => whnf)))))
    refine ⟨by show 0 ≤ sizeLine; decide, ?_⟩
    intro t nt
    generalize hG : L2.upd _ t _ = H4
    have s4 := sameOf nt hG
    have e4 := atOf hG
    clear hG
    have ntr : t ∉ rs := fun h => by
      have := (hr t h).1
      rw [nt] at this
      cases this
    have ntD : t ≠ D := (ne_of_none hrs nt).symm
    have ntH : H1 t = none := s.free nt
    refine ⟨_, s4 _ _ hrs, by rw [List.length_map, sizeLine_eq]; omega, Same.upd (s.trans s4) hD, rs ++ [t], by rw [upd_same, List.map_append]; rfl, by rw [List.length_append, hl]; rfl, ?_, fun r h => ?_, fun h => ?_⟩
    · rw [List.nodup_append]
      refine ⟨hnd, by simp, fun a ha b hb e => ntr ?_⟩
      rw [List.mem_singleton.mp hb] at e
      exact e ▸ ha
    · rcases List.mem_append.mp h with h | h
      · obtain ⟨h1, h2⟩ := hr r h
        have hrD : r ≠ D := fun e => hne (by rw [← e]; exact h)
        exact ⟨by rw [upd_ne hrD]; exact s4 _ _ h1, h2⟩
      · rw [List.mem_singleton.mp h]
        exact ⟨by rw [upd_ne ntD]; exact e4, ntH⟩
    · rcases List.mem_append.mp h with h | h
      · exact hne h
      · exact ntD (List.mem_singleton.mp h).symm
  · obtain ⟨s, rs, hrs, hl, hnd, hr, hne⟩ := hp
    refine k D rs H2 ⟨⟨hrs, by omega, fun j r hj => ?_⟩, s, hnd, hD, fun r h => (hr r h).2, hne⟩
    rw [(hr r (List.mem_of_getElem? hj)).1]
    rfl
theorem pure_part_namesG {K a b c H Q E} (h : P_part_namesG K a b c H Q E) : t_part_names K E { nx := fun _ H' => Q .non H', rt := Q } [some a, some b, some c, none, none, none] H := by
  obtain ⟨x, wp, wq, cd, W, n, kv, ask, hn, rfl, rfl, rfl, k⟩ := h
  obtain ⟨dx, ho⟩ := ask.web.o
  ((try (conv => whnf)); repeat (first | (refine cndT rfl ?_; (try (conv => whnf))) | (refine cndF rfl ?_; (try (conv => whnf)))))
  refine ⟨x, wp, wq, W, n, rfl, ⟨ask.web, ask.hl, ask.nd⟩, rfl, .inl ⟨kv, ⟨cd, rfl, ask.cd, ask.ck⟩, fun H1 s1 => ?_⟩⟩
  ((try (conv => whnf)); repeat (first | (refine cndT rfl ?_; (try (conv => whnf))) | (refine cndF rfl ?_; (try (conv => whnf)))))
  refine ⟨_, rfl, by omega, by omega, ?_⟩
  refine rows_new (K := K) (f := cF kv) (by omega) (fun v H' R hR => hR _ rfl) fun l rs H2 ng2 => ?_
  ((try (conv => whnf)); repeat (first | (refine cndT rfl ?_; (try (conv => whnf))) | (refine cndF rfl ?_; (try (conv => whnf)))))
  left
  ((try (conv => whnf)); repeat (first | (refine cndT rfl ?_; (try (conv => whnf))) | (refine cndF rfl ?_; (try (conv => whnf)))))
  refine ⟨x, dx, _, rfl, ng2.s _ _ (s1 _ _ ho), webF_n (by decide +kernel) (by decide +kernel), ?_⟩
  ((try (conv => whnf)); repeat (first | (refine cndT rfl ?_; (try (conv => whnf))) | (refine cndF rfl ?_; (try (conv => whnf)))))
  refine ⟨x, wp, wq, W, rfl, (ask.web.same s1).same ng2.s, fun lnm H4 nlnm s4 e4 => ?_⟩
  have ng4 := ng2.same s4
  have nlr : lnm ∉ rs := fun h => by
    obtain ⟨j, hj⟩ := List.getElem?_of_mem h
    have := ng2.o.row j lnm hj
    rw [nlnm] at this
    cases this
  refine .inl ⟨_, SqL.of e4, ?_⟩
  refine forL (SqL.of e4) (fun i σ H' => NamG H1 H' l rs ((W.hv.map Prod.fst).take i) (cF kv) n ∧ H' lnm = some (.lst (W.hv.map fun e => V.str e.1)) ∧ ∃ v4 v5 : Option V, σ = [some (.ref x), some (.int n), some (.ref cd), some (.ref l), v4, v5]) ⟨ng4, e4, _, _, rfl⟩ ?_ ?_ ?_
  · rintro i σ H' _ ⟨_, h1, _⟩
    exact SqL.of h1
  · rintro i y σ H5 hy ⟨ng5, en5, v4, v5, rfl⟩
    rw [List.getElem?_map] at hy
    obtain ⟨e, he, rfl⟩ := Option.map_eq_some_iff.mp hy
    have hz : (W.hv.map Prod.fst)[i]? = some e.1 := by rw [List.getElem?_map, he]; rfl
    obtain ⟨c, hc, hcf, hcn⟩ := cF_at ask.ck (List.mem_of_getElem? hz)
    have g := DGet.k (k := kS e.1) (ng5.s _ _ (s1 _ _ ask.cd))
    rw [emb_val kS_inj, hc] at g
    obtain ⟨r, hr, hat, hrow⟩ := ng5.at_ hcn
    have hlen : (nRow ((W.hv.map Prod.fst).take i) (cF kv) c).length ≤ 60 := by
      have h1 := nRow_len (nm := (W.hv.map Prod.fst).take i) (f := cF kv) (j := c)
      rw [List.length_take, List.length_map] at h1
      have := ask.hl
      omega
    ((try (conv => whnf)); repeat (first | (refine cndT rfl ?_; (try (conv => whnf))) | (refine cndF rfl ?_; (try (conv => whnf)))))
    refine ixD g ?_
    refine ixLk ng5.o.l hat ?_
    refine ⟨.inl ⟨rfl, _, SqL.of hrow⟩, ?_⟩
    ((try (conv => whnf)); repeat (first | (refine cndT rfl ?_; (try (conv => whnf))) | (refine cndF rfl ?_; (try (conv => whnf)))))
    refine ⟨r, _, _, rfl, rfl, hrow, by rw [List.length_map, sizeLine_eq]; omega, ?_⟩
    (generalize hG : _root_.L2.upd _ r _ = H6; have b6 := butOf hG; have e6 := atOf hG; clear hG; ((try (conv => whnf)); repeat (first | (refine cndT rfl ?_; (try (conv => whnf))) | (refine cndF rfl ?_; (try (conv => whnf))))))
    refine ⟨?_, b6.at en5 (fun e => nlr (e ▸ List.mem_of_getElem? hr)), _, _, rfl⟩
    rw [List.take_add_one, hz]
    exact ng5.add hcf hr b6 e6
  · rintro σ H5 ⟨ng5, en5, v4, v5, rfl⟩
    rw [List.length_map, List.take_of_length_le (by rw [List.length_map]; exact Nat.le_refl _)] at ng5
    ((try (conv => whnf)); repeat (first | (refine cndT rfl ?_; (try (conv => whnf))) | (refine cndF rfl ?_; (try (conv => whnf)))))
    exact k l rs H5 (s1.free ng5.nl) (fun r h => s1.free (ng5.nr r h)) ng5.nd ng5.ne (s1.trans ng5.s) ng5.o
theorem pure_part_names {K a b c H Q E} (h : P_part_names K a b c H Q E) : t_part_names K E { nx := fun _ H' => Q .non H', rt := Q } [some a, some b, some c, none, none, none] H := by
  rcases h with h | h
  · obtain ⟨x, wp, wq, W, n, h1, h2, h3, h4, h5, h6⟩ := h
    ((try (conv => whnf)); repeat (first | (refine cndT rfl ?_; (try (conv => whnf))) | (refine cndF rfl ?_; (try (conv => whnf)))))
    exact ⟨x, wp, wq, W, n, h1, h2, h3, .inr ⟨h4, h5, h6⟩⟩
  · exact pure_part_namesG h

end Wk27
namespace Wk27
open PySem L2 PySem.Spec PyProof.Rows Rf
theorem pairK_inj : ∀ a b : Int × Int, pairK a = pairK b → a = b := fun a b h => by
  unfold pairK at h
  simp only [List.cons.injEq, Sum.inl.injEq, and_true] at h
  exact Prod.ext h.1 h.2
theorem putA_keys {α : Type} [DecidableEq α] {l : List (α × Int)} {k : α} {v : Int} : (putA l k v).map Prod.fst = if k ∈ l.map Prod.fst then l.map Prod.fst else l.map Prod.fst ++ [k] := by
  unfold putA
  by_cases c : (l.any fun p => decide (p.1 = k)) = true
  · have hm : k ∈ l.map Prod.fst := by
      obtain ⟨p, hp, e⟩ := List.any_eq_true.mp c
      exact List.mem_map.mpr ⟨p, hp, of_decide_eq_true e⟩
    rw [if_pos c, if_pos hm, List.map_map]
    refine List.map_congr_left fun p _ => ?_
    show (if p.1 = k then (p.1, v) else p).1 = p.1
    split <;> rfl
  · have hm : k ∉ l.map Prod.fst := fun hm => c (by
      obtain ⟨p, hp, e⟩ := List.mem_map.mp hm
      exact List.any_eq_true.mpr ⟨p, hp, decide_eq_true e⟩)
    rw [if_neg c, if_neg hm, List.map_append]
    rfl
theorem sumK_snoc {C : List ((Str × Str) × Int)} {e : (Str × Str) × Int} {kv : List (Str × Int)} {k : Int × Int} : sumK (C ++ [e]) kv k = sumK C kv k + if kpT kv e = k then e.2 else 0 := by
  unfold sumK
  rw [List.filter_append, List.map_append, List.sum_append]
  by_cases c : kpT kv e = k
  · rw [if_pos c]
    simp [List.filter, c]
  · rw [if_neg c]
    simp [List.filter, c]
theorem sumK_no {C : List ((Str × Str) × Int)} {kv : List (Str × Int)} {k : Int × Int} (h : k ∉ C.map (kpT kv)) : sumK C kv k = 0 := by
  unfold sumK
  rw [List.filter_eq_nil_iff.mpr fun e he c => h (List.mem_map.mpr ⟨e, he, of_decide_eq_true c⟩)]
  rfl
structure AccOk (C : List ((Str × Str) × Int)) (kv : List (Str × Int)) (L : List ((Int × Int) × Int)) : Prop where
  nd : (L.map Prod.fst).Nodup
  mem : ∀ k, k ∈ L.map Prod.fst ↔ k ∈ C.map (kpT kv)
  val : ∀ k, k ∈ L.map Prod.fst → getA L k = some (sumK C kv k)
theorem AccOk.len {C kv L} (h : AccOk C kv L) : L.length ≤ C.length := by
  have h1 : (L.map Prod.fst).length ≤ (C.map (kpT kv)).length := by
    refine List.Nodup.length_le_of_subset h.nd fun k hk => (h.mem k).mp hk
  rw [List.length_map, List.length_map] at h1
  exact h1
theorem AccOk.at_ {C kv L} (h : AccOk C kv L) (k : Int × Int) : (getA L k).getD 0 = sumK C kv k := by
  by_cases c : k ∈ L.map Prod.fst
  · rw [h.val k c]
    rfl
  · rw [getA_key c, sumK_no fun m => c ((h.mem k).mpr m)]
    rfl
theorem AccOk.snoc {C kv L} (h : AccOk C kv L) {e : (Str × Str) × Int} : AccOk (C ++ [e]) kv (putA L (kpT kv e) (sumK C kv (kpT kv e) + e.2)) := by
  refine ⟨?_, fun k => ?_, fun k hk => ?_⟩
  · rw [putA_keys]
    split
    · exact h.nd
    · rename_i c
      exact List.nodup_append.mpr ⟨h.nd, List.pairwise_singleton _ _, fun a ha b hb e => c (by rw [← List.mem_singleton.mp hb, ← e]; exact ha)⟩
  · rw [putA_keys, List.map_append, List.mem_append, ← h.mem]
    have hs : k ∈ [e].map (kpT kv) ↔ k = kpT kv e := by simp
    split
    · rename_i c
      refine ⟨.inl, fun q => q.elim id fun q => by rw [hs.mp q]; exact c⟩
    · rw [List.mem_append, List.mem_singleton, hs]
  · rw [getA_put, sumK_snoc]
    by_cases c : k = kpT kv e
    · rw [if_pos c, if_pos c.symm, c]
    · rw [if_neg c, if_neg fun q => c q.symm, Int.add_zero]
      refine h.val k ?_
      rw [putA_keys] at hk
      split at hk
      · exact hk
      · exact (List.mem_append.mp hk).elim id fun q => absurd (List.mem_singleton.mp q) c
theorem kpT_le {kv : List (Str × Int)} {e : (Str × Str) × Int} : (kpT kv e).1 ≤ (kpT kv e).2 := by
  unfold kpT
  split
  · assumption
  · show cF kv e.1.2 ≤ cF kv e.1.1
    omega
theorem kpT_ne {kv : List (Str × Int)} {e : (Str × Str) × Int} : (kpT kv e).1 < (kpT kv e).2 ↔ cF kv e.1.1 ≠ cF kv e.1.2 := by
  unfold kpT
  split
  · show cF kv e.1.1 < cF kv e.1.2 ↔ _
    omega
  · show cF kv e.1.2 < cF kv e.1.1 ↔ _
    omega
/-- what is cut -/
theorem cut_iff {nm : List Str} {kv : List (Str × Int)} {n : Nat} (ck : CutOk nm kv n) {e : (Str × Str) × Int} (h1 : e.1.1 ∈ nm) (h2 : e.1.2 ∈ nm) : cutB kv e = true ↔ (kpT kv e).1 < (kpT kv e).2 := by
  obtain ⟨a, ha, fa, _⟩ := cF_at ck h1
  obtain ⟨b, hb, fb, _⟩ := cF_at ck h2
  rw [kpT_ne, fa, fb]
  unfold cutB
  rw [ha, hb]
  simp
theorem sumK_cut {nm : List Str} {kv : List (Str × Int)} {n : Nat} (ck : CutOk nm kv n) {T : List ((Str × Str) × Int)} (h : ∀ e ∈ T, e.1.1 ∈ nm ∧ e.1.2 ∈ nm) {k : Int × Int} (hk : k.1 < k.2) : sumK (T.filter (cutB kv)) kv k = sumK T kv k := by
  unfold sumK
  rw [List.filter_filter]
  refine congrArg (fun l : List ((Str × Str) × Int) => (l.map Prod.snd).sum) (List.filter_congr fun e he => ?_)
  by_cases c : kpT kv e = k
  · rw [decide_eq_true c, Bool.true_and, (cut_iff ck (h e he).1 (h e he).2).mpr (by rw [c]; exact hk)]
  · rw [decide_eq_false c, Bool.false_and]
theorem btw_of {nm : List Str} {kv : List (Str × Int)} {n : Nat} (ck : CutOk nm kv n) {T : List ((Str × Str) × Int)} (h : ∀ e ∈ T, e.1.1 ∈ nm ∧ e.1.2 ∈ nm) {L : List ((Int × Int) × Int)} (ok : AccOk (T.filter (cutB kv)) kv L) {ys : List (Int × Int)} (pm : ys.Perm (L.map Prod.fst)) (up : ys.Pairwise fun x y => SrtO.lexB y x = false) : BtwOk T kv (ys.map fun k => (k, sumK (T.filter (cutB kv)) kv k)) := by
  have e0 : (ys.map fun k => (k, sumK (T.filter (cutB kv)) kv k)).map Prod.fst = ys := by
    rw [List.map_map]
    exact List.map_id ys
  have nd : ys.Nodup := pm.nodup_iff.mpr ok.nd
  have hm : ∀ k, k ∈ ys ↔ k.1 < k.2 ∧ k ∈ T.map (kpT kv) := fun k => by
    rw [pm.mem_iff, ok.mem]
    constructor
    · intro q
      obtain ⟨e, he, rfl⟩ := List.mem_map.mp q
      obtain ⟨h1, h2⟩ := List.mem_filter.mp he
      exact ⟨(cut_iff ck (h e h1).1 (h e h1).2).mp h2, List.mem_map.mpr ⟨e, h1, rfl⟩⟩
    · rintro ⟨q1, q⟩
      obtain ⟨e, he, rfl⟩ := List.mem_map.mp q
      exact List.mem_map.mpr ⟨e, List.mem_filter.mpr ⟨he, (cut_iff ck (h e he).1 (h e he).2).mpr q1⟩, rfl⟩
  refine ⟨?_, fun k => ?_, fun e he => ?_⟩
  · rw [e0]
    rw [List.nodup_iff_pairwise_ne] at nd
    refine (up.and nd).imp fun {x y} q => ?_
    obtain ⟨q1, q2⟩ := q
    have := SrtO.lexB_no.mp q1
    have : ¬ (x.1 = y.1 ∧ x.2 = y.2) := fun z => q2 (Prod.ext z.1 z.2)
    omega
  · rw [e0]
    exact hm k
  · obtain ⟨k, hk, rfl⟩ := List.mem_map.mp he
    exact sumK_cut ck h ((hm k).mp hk).1

end Wk27
namespace Wk27
open PySem L2 PySem.Spec PyProof.Rows Rf
theorem pure_between_partsG {K a b c H Q E} (h : P_between_partsG K a b c H Q E) : t_between_parts K E { nx := fun _ H' => Q .non H', rt := Q } [some a, some b, some c, none, none, none, none, none, none] H := by
  obtain ⟨x, wp, wq, cd, W, n, kv, ask, rfl, rfl, rfl, k⟩ := h
  have hin := told_in ask
  ((try (conv => whnf)); repeat (first | (refine cndT rfl ?_; (try (conv => whnf))) | (refine cndF rfl ?_; (try (conv => whnf)))))
  right
  (intro fd nfd; generalize hG : _root_.L2.upd _ fd _ = H1; have s1 := sameOf nfd hG; have e1 := atOf hG; clear hG; ((try (conv => whnf)); repeat (first | (refine cndT rfl ?_; (try (conv => whnf))) | (refine cndF rfl ?_; (try (conv => whnf))))))
  left
  ((try (conv => whnf)); repeat (first | (refine cndT rfl ?_; (try (conv => whnf))) | (refine cndF rfl ?_; (try (conv => whnf)))))
  refine .inr ⟨x, wp, wq, cd, W, n, kv, ask.same s1, rfl, rfl, rfl, fun l ts H2 nl s2 hl pts => ?_⟩
  have hTl : ((W.kn.map (tieT W)).filter (cutB kv)).length ≤ 200 := by
    have := List.length_filter_le (cutB kv) (W.kn.map (tieT W))
    rw [List.length_map] at this
    have := ask.kl
    omega
  have hC : ∀ e ∈ (W.kn.map (tieT W)).filter (cutB kv), e.1.1 ∈ W.hv.map Prod.fst ∧ e.1.2 ∈ W.hv.map Prod.fst := fun e he => hin e (List.mem_filter.mp he).1
  have hB := fun {L} (ok : AccOk ((W.kn.map (tieT W)).filter (cutB kv)) kv L) {ys : List (Int × Int)} (pm : ys.Perm (L.map Prod.fst)) up => btw_of ask.ck hin ok pm up
  generalize (W.kn.map (tieT W)).filter (cutB kv) = C at pts hTl hC hB
  have htl := Paired.length pts
  have nlfd : l ≠ fd := (ne_of_none e1 nl).symm
  have s02 := s1.trans s2
  refine .inl ⟨_, SqL.of hl, ?_⟩
  refine forL (SqL.of hl) (fun i σ H' => Same H H' ∧ Kx [fd] H2 H' ∧ (∃ L, H' fd = some (.dT (emb pairK L)) ∧ AccOk (C.take i) kv L) ∧ ∃ v5 v6 v7 v8 : Option V, σ = [some (.ref x), some (.int n), some (.ref cd), some (.ref fd), none, v5, v6, v7, v8]) ⟨s02, Kx.refl, ⟨[], s2 _ _ e1, ⟨.nil, (fun k => by simp), fun k hk => by cases hk⟩⟩, _, _, _, _, rfl⟩ ?_ ?_ ?_
  · rintro i σ H' _ ⟨_, k1, _⟩
    exact SqL.of (k1 _ _ (by simp; exact nlfd) hl)
  · rintro i y σ H3 hy ⟨s3, k3, ⟨L, hL, ok⟩, v5, v6, v7, v8, rfl⟩
    rw [List.getElem?_map] at hy
    obtain ⟨t, ht, rfl⟩ := Option.map_eq_some_iff.mp hy
    obtain ⟨e, he, het⟩ := paired_get pts ht
    have het : H2 t = some (.tup [.str e.1.1, .str e.1.2, .int e.2]) := het
    have ntf : t ≠ fd := nek het (s2 _ _ e1) (fun z => by cases z)
    have het3 := k3 _ _ (by simp; exact ntf) het
    obtain ⟨m1, m2⟩ := hC e (List.mem_of_getElem? he)
    obtain ⟨c1, hc1, f1, _⟩ := cF_at ask.ck m1
    obtain ⟨c2, hc2, f2, _⟩ := cF_at ask.ck m2
    have g1 := DGet.k (k := kS e.1.1) (s3 _ _ ask.cd)
    rw [emb_val kS_inj, hc1] at g1
    have g2 := DGet.k (k := kS e.1.2) (s3 _ _ ask.cd)
    rw [emb_val kS_inj, hc2] at g2
    refine ⟨t, _, rfl, SqT.of het3, rfl, _, _, rfl, _, _, rfl, _, _, rfl, rfl, ?_⟩
    ((try (conv => whnf)); repeat (first | (refine cndT rfl ?_; (try (conv => whnf))) | (refine cndF rfl ?_; (try (conv => whnf)))))
    refine ixD g1 ?_
    ((try (conv => whnf)); repeat (first | (refine cndT rfl ?_; (try (conv => whnf))) | (refine cndF rfl ?_; (try (conv => whnf)))))
    refine ixD g2 ?_
    ((try (conv => whnf)); repeat (first | (refine cndT rfl ?_; (try (conv => whnf))) | (refine cndF rfl ?_; (try (conv => whnf)))))
    refine ixD g1 ?_
    ((try (conv => whnf)); repeat (first | (refine cndT rfl ?_; (try (conv => whnf))) | (refine cndF rfl ?_; (try (conv => whnf)))))
    refine ixD g2 ?_
    ((try (conv => whnf)); repeat (first | (refine cndT rfl ?_; (try (conv => whnf))) | (refine cndF rfl ?_; (try (conv => whnf)))))
    refine ⟨by show 2 ≤ sizeLine; decide, ?_⟩
    (intro t2 nt2; generalize hG : _root_.L2.upd _ t2 _ = H4; have s4 := sameOf nt2 hG; have e4 := atOf hG; clear hG; ((try (conv => whnf)); repeat (first | (refine cndT rfl ?_; (try (conv => whnf))) | (refine cndF rfl ?_; (try (conv => whnf))))))
    have hk1 : (if (c2 : Int) < (c1 : Int) then (c2 : Int) else (c1 : Int)) = (kpT kv e).1 := by
      unfold kpT
      rw [f1, f2]
      by_cases q : (c1 : Int) ≤ c2
      · rw [if_pos q, if_neg (by omega)]
      · rw [if_neg q, if_pos (by omega)]
    have hk2 : (if (c2 : Int) > (c1 : Int) then (c2 : Int) else (c1 : Int)) = (kpT kv e).2 := by
      unfold kpT
      rw [f1, f2]
      by_cases q : (c1 : Int) ≤ c2
      · rw [if_pos q]
        show (if (c2 : Int) > c1 then (c2 : Int) else c1) = c2
        split <;> omega
      · rw [if_neg q]
        show (if (c2 : Int) > c1 then (c2 : Int) else c1) = c1
        rw [if_neg (by omega)]
    rw [hk1, hk2] at e4
    have eb : H4 t2 = some (.tup ((pairK (kpT kv e)).map kV)) := e4
    have hL4 := s4 _ _ hL
    refine ⟨.inr (.inr (.inl ⟨rfl, .inr ⟨_, hL4⟩⟩)), ?_⟩
    ((try (conv => whnf)); repeat (first | (refine cndT rfl ?_; (try (conv => whnf))) | (refine cndF rfl ?_; (try (conv => whnf)))))
    refine ⟨fd, _, rfl, DGet.t hL4 eb, ?_⟩
    rw [emb_val pairK_inj]
    have hv : (((getA L (kpT kv e)).map V.int).getD (V.int 0)) = V.int (sumK (C.take i) kv (kpT kv e)) := by
      have := ok.at_ (kpT kv e)
      rw [← this]
      cases getA L (kpT kv e) <;> rfl
    rw [hv]
    ((try (conv => whnf)); repeat (first | (refine cndT rfl ?_; (try (conv => whnf))) | (refine cndF rfl ?_; (try (conv => whnf)))))
    have hLl := ok.len
    rw [List.length_take] at hLl
    refine setD rfl (DPut.t (k := pairK (kpT kv e)) hL4 eb (by rw [emb_len, sizeLine_eq]; omega)) ?_
    (generalize hG : _root_.L2.upd _ fd _ = H5; have b5 := butOf hG; have e5 := atOf hG; clear hG; ((try (conv => whnf)); repeat (first | (refine cndT rfl ?_; (try (conv => whnf))) | (refine cndF rfl ?_; (try (conv => whnf))))))
    rw [emb_put pairK_inj] at e5
    have nfH : H fd = none := nfd
    refine ⟨fun b o eo => b5.at (s4 _ _ (s3 _ _ eo)) (ne_n (some_ne eo) nfH), (k3.trans (.same s4)).trans (.but b5 (by simp)), ⟨_, e5, ?_⟩, _, _, _, _, rfl⟩
    rw [List.take_add_one, he]
    exact ok.snoc
  rintro σ H3 ⟨s3, k3, ⟨L, hL, ok⟩, v5, v6, v7, v8, rfl⟩
  rw [List.length_map, htl, List.take_of_length_le (Nat.le_refl _)] at ok
  ((try (conv => whnf)); repeat (first | (refine cndT rfl ?_; (try (conv => whnf))) | (refine cndF rfl ?_; (try (conv => whnf)))))
  right
  (intro rd nrd; generalize hG : _root_.L2.upd _ rd _ = H4; have s4 := sameOf nrd hG; have e4 := atOf hG; clear hG; ((try (conv => whnf)); repeat (first | (refine cndT rfl ?_; (try (conv => whnf))) | (refine cndF rfl ?_; (try (conv => whnf))))))
  have hL4 := s4 _ _ hL
  left
  ((try (conv => whnf)); repeat (first | (refine cndT rfl ?_; (try (conv => whnf))) | (refine cndF rfl ?_; (try (conv => whnf)))))
  unfold rSrtU
  refine .inr (.inr (.inr (.inr (.inr ⟨fd, _, L.map Prod.fst, rfl, .inl hL4, ?_, fun ys bs l2 pm up nl2 pbs => ?_⟩))))
  · unfold emb
    rw [List.map_map, List.map_map]
    rfl
  generalize hG : L2.upd _ l2 _ = H5
  have s5 := sameOf nl2 hG
  have e5 := atOf hG
  clear hG
  have nl2rd : l2 ≠ rd := (ne_of_none e4 nl2).symm
  have nl2fd : l2 ≠ fd := (ne_of_none hL4 nl2).symm
  have nfr : fd ≠ rd := ne_of_none hL nrd
  have nrdH : H rd = none := s3.free nrd
  have s05 := (s3.trans s4).trans s5
  have hysn : ys.Nodup := pm.nodup_iff.mpr ok.nd
  have hysl : ys.length ≤ 200 := by
    have h1 := pm.length_eq
    rw [List.length_map] at h1
    have h2 := ok.len
    omega
  have hbl := Paired.length pbs
  refine .inl ⟨_, SqL.of e5, ?_⟩
  refine forL (SqL.of e5) (fun i σ H' => Same H H' ∧ Kx [rd] H5 H' ∧ H' rd = some (.dT (emb pairK ((ys.take i).map fun k => (k, sumK C kv k)))) ∧ ∃ v5 v6 v7 v8 : Option V, σ = [some (.ref x), some (.int n), some (.ref cd), some (.ref fd), some (.ref rd), v5, v6, v7, v8]) ⟨s05, Kx.refl, s5 _ _ e4, _, _, _, _, rfl⟩ ?_ ?_ ?_
  · rintro i σ H' _ ⟨_, k1, _⟩
    exact SqL.of (k1 _ _ (by simp; exact nl2rd) e5)
  · rintro i y σ H6 hy ⟨s6, k6, er, v5, v6, v7, v8, rfl⟩
    rw [List.getElem?_map] at hy
    obtain ⟨t, ht, rfl⟩ := Option.map_eq_some_iff.mp hy
    obtain ⟨q, hq, hqt⟩ := paired_get pbs ht
    have hqt : H4 t = some (.tup ((pairK q).map kV)) := hqt
    have ntr : t ≠ rd := nek hqt e4 (fun z => by cases z)
    have hqt6 := k6 _ _ (by simp; exact ntr) (s5 _ _ hqt)
    have hL6 := k6 _ _ (by simp; exact nfr) (s5 _ _ hL4)
    have g := DGet.t (k := pairK q) hL6 hqt6
    have hm : q ∈ L.map Prod.fst := pm.mem_iff.mp (List.mem_of_getElem? hq)
    rw [emb_val pairK_inj, ok.val q hm] at g
    ((try (conv => whnf)); repeat (first | (refine cndT rfl ?_; (try (conv => whnf))) | (refine cndF rfl ?_; (try (conv => whnf)))))
    refine ixD g ?_
    ((try (conv => whnf)); repeat (first | (refine cndT rfl ?_; (try (conv => whnf))) | (refine cndF rfl ?_; (try (conv => whnf)))))
    refine setD rfl (DPut.t (k := pairK q) er hqt6 (by rw [emb_len, List.length_map, List.length_take, sizeLine_eq]; omega)) ?_
    (generalize hG : _root_.L2.upd _ rd _ = H7; have b7 := butOf hG; have e7 := atOf hG; clear hG; ((try (conv => whnf)); repeat (first | (refine cndT rfl ?_; (try (conv => whnf))) | (refine cndF rfl ?_; (try (conv => whnf))))))
    have hnone : getA ((ys.take i).map fun k => (k, sumK C kv k)) q = none := getA_key (by
      rw [List.map_map]
      show q ∉ (ys.take i).map id
      rw [List.map_id]
      intro hmem
      obtain ⟨j, hj⟩ := List.getElem?_of_mem hmem
      rw [List.getElem?_take] at hj
      split at hj
      · have := (List.getElem?_inj (List.getElem?_eq_some_iff.mp hj).1 hysn).mp (hj.trans hq.symm)
        omega
      · cases hj)
    rw [emb_put pairK_inj, getA_app hnone] at e7
    refine ⟨fun b o eo => b7.at (s6 _ _ eo) (ne_n (some_ne eo) nrdH), k6.trans (.but b7 (by simp)), ?_, _, _, _, _, rfl⟩
    rw [e7, List.take_add_one, hq, List.map_append]
    rfl
  · rintro σ H6 ⟨s6, k6, er, v5, v6, v7, v8, rfl⟩
    rw [List.length_map, hbl, List.take_of_length_le (Nat.le_refl _)] at er
    ((try (conv => whnf)); repeat (first | (refine cndT rfl ?_; (try (conv => whnf))) | (refine cndF rfl ?_; (try (conv => whnf)))))
    exact k rd _ H6 nrdH s6 er (hB ok pm up)
theorem pure_between_parts {K a b c H Q E} (h : P_between_parts K a b c H Q E) : t_between_parts K E { nx := fun _ H' => Q .non H', rt := Q } [some a, some b, some c, none, none, none, none, none, none] H := by
  rcases h with h | h
  · ((try (conv => whnf)); repeat (first | (refine cndT rfl ?_; (try (conv => whnf))) | (refine cndF rfl ?_; (try (conv => whnf)))))
    right
    (intro fd nfd; generalize hG : _root_.L2.upd _ fd _ = H1; have s1 := sameOf nfd hG; have e1 := atOf hG; clear hG; ((try (conv => whnf)); repeat (first | (refine cndT rfl ?_; (try (conv => whnf))) | (refine cndF rfl ?_; (try (conv => whnf))))))
    left
    ((try (conv => whnf)); repeat (first | (refine cndT rfl ?_; (try (conv => whnf))) | (refine cndF rfl ?_; (try (conv => whnf)))))
    exact .inl (h.same s1)
  · exact pure_between_partsG h

end Wk27
namespace Wk27
open PySem L2 PySem.Spec PyProof.Rows Rf
theorem ruF_1 {n lo hi : Int} : (ruF n lo hi).lookup ("parts" : Str) = some (.int n) := by
  unfold ruF
  rw [List.lookup_cons, beq_self_eq_true]
theorem ruF_2 {n lo hi : Int} : (ruF n lo hi).lookup ("low" : Str) = some (.int lo) := by
  unfold ruF
  rw [List.lookup_cons, show ((("low" : Str)) == ("parts" : Str)) = false by decide +kernel, List.lookup_cons, beq_self_eq_true]
theorem ruF_3 {n lo hi : Int} : (ruF n lo hi).lookup ("high" : Str) = some (.int hi) := by
  unfold ruF
  rw [List.lookup_cons, show ((("high" : Str)) == ("parts" : Str)) = false by decide +kernel, List.lookup_cons, show ((("high" : Str)) == ("low" : Str)) = false by decide +kernel, List.lookup_cons, beq_self_eq_true]
theorem ruF_n {n lo hi : Int} {m : Str} (h1 : (m == ("parts" : Str)) = false) (h2 : (m == ("low" : Str)) = false) (h3 : (m == ("high" : Str)) = false) : (ruF n lo hi).lookup m = none := by
  unfold ruF
  rw [List.lookup_cons, h1, List.lookup_cons, h2, List.lookup_cons, h3]
  rfl
theorem whole_ok {w lo hi : Int} (h1 : lo ≤ w) (h2 : w ≤ hi) : wholeV (.int w) lo hi = true := by simp [wholeV, h1, h2]
theorem pure_Rule_init {K a b c d H Q E} (h : P_Rule_init K a b c d H Q E) : t_Rule_init K E { nx := fun _ H' => Q .non H', rt := Q } [some a, some b, some c, some d] H := by
  obtain ⟨r, dx, n, lo, hi, rfl, rk, ho, rfl, rfl, rfl, n2, n6, l0, l1, h1, h2, k⟩ := h
  ((try (conv => whnf)); repeat (first | (refine cndT rfl ?_; (try (conv => whnf))) | (refine cndF rfl ?_; (try (conv => whnf)))))
  refine ⟨"int", 2, 6, rfl, rfl, rfl, ?_⟩
  rw [whole_ok n2 n6]
  ((try (conv => whnf)); repeat (first | (refine cndT rfl ?_; (try (conv => whnf))) | (refine cndF rfl ?_; (try (conv => whnf)))))
  refine ⟨"int", 0, 1000000000, rfl, rfl, rfl, ?_⟩
  rw [whole_ok l0 (by omega)]
  ((try (conv => whnf)); repeat (first | (refine cndT rfl ?_; (try (conv => whnf))) | (refine cndF rfl ?_; (try (conv => whnf)))))
  refine ⟨"int", (if lo > 1 then lo else 1), 1000000000, rfl, rfl, rfl, ?_⟩
  rw [whole_ok (by split <;> omega) h2]
  ((try (conv => whnf)); repeat (first | (refine cndT rfl ?_; (try (conv => whnf))) | (refine cndF rfl ?_; (try (conv => whnf)))))
  refine ⟨r, ruC K, dx, [], rfl, ho, rk.cls, rk.n1, by decide, ?_⟩
  (generalize hG : _root_.L2.upd _ r _ = H2; have b2 := butOf hG; have e2 := atOf hG; clear hG; ((try (conv => whnf)); repeat (first | (refine cndT rfl ?_; (try (conv => whnf))) | (refine cndF rfl ?_; (try (conv => whnf))))))
  refine ⟨r, ruC K, dx, _, rfl, e2, rk.cls, rk.n2, by show 1 < 1000; decide, ?_⟩
  (generalize hG : _root_.L2.upd _ r _ = H3; have b3 := butOf hG; have e3 := atOf hG; clear hG; ((try (conv => whnf)); repeat (first | (refine cndT rfl ?_; (try (conv => whnf))) | (refine cndF rfl ?_; (try (conv => whnf))))))
  refine ⟨r, ruC K, dx, _, rfl, e3, rk.cls, rk.n3, by show 2 < 1000; decide, ?_⟩
  (generalize hG : _root_.L2.upd _ r _ = H4; have b4 := butOf hG; have e4 := atOf hG; clear hG; ((try (conv => whnf)); repeat (first | (refine cndT rfl ?_; (try (conv => whnf))) | (refine cndF rfl ?_; (try (conv => whnf))))))
  exact k H4 ⟨rk, dx, e4⟩ (((Kx.but b2 (by simp)).trans (.but b3 (by simp))).trans (.but b4 (by simp)))
theorem pure_Rule_does {K a b H Q E} (h : P_Rule_does K a b H Q E) : t_Rule_does K E { nx := fun _ H' => Q .non H', rt := Q } [some a, some b] H := by
  obtain ⟨r, n, lo, hi, w, rfl, ru, rfl, k⟩ := h
  obtain ⟨dx, ho⟩ := ru.o
  ((try (conv => whnf)); repeat (first | (refine cndT rfl ?_; (try (conv => whnf))) | (refine cndF rfl ?_; (try (conv => whnf)))))
  refine ⟨r, _, dx, _, _, rfl, ho, ru.k.cls, ru.k.n2, ruF_2, ?_⟩
  ((try (conv => whnf)); repeat (first | (refine cndT rfl ?_; (try (conv => whnf))) | (refine cndF rfl ?_; (try (conv => whnf)))))
  (refine cndB (fun c => ?_) (fun c => ?_) <;> (try simp only [Bool.not_eq_eq_eq_not, Bool.not_true, Bool.not_false, decide_eq_true_eq, decide_eq_false_iff_not, Int.not_le, Int.not_lt] at c) <;> ((try (conv => whnf)); repeat (first | (refine cndT rfl ?_; (try (conv => whnf))) | (refine cndF rfl ?_; (try (conv => whnf))))))
  · refine ⟨r, _, dx, _, _, rfl, ho, ru.k.cls, ru.k.n3, ruF_3, ?_⟩
    ((try (conv => whnf)); repeat (first | (refine cndT rfl ?_; (try (conv => whnf))) | (refine cndF rfl ?_; (try (conv => whnf)))))
    have e : decide (lo ≤ w ∧ w ≤ hi) = decide (w ≤ hi) := decide_eq_decide.mpr ⟨fun q => q.2, fun q => ⟨c, q⟩⟩
    rw [e] at k
    exact k
  · have e : decide (lo ≤ w ∧ w ≤ hi) = false := decide_eq_false fun q => by omega
    rw [e] at k
    exact k
theorem bey_at {lo hi : Int} {ws : List Int} {i : Nat} {w : Int} (h : ws[i]? = some w) (hw : ¬ (lo ≤ w ∧ w ≤ hi)) (hb : ∀ v ∈ ws.take i, lo ≤ v ∧ v ≤ hi) : beyI lo hi ws = .int i := by
  unfold beyI
  have hi' := (List.getElem?_eq_some_iff.mp h).1
  have e : ws.findIdx? (fun w => !decide (lo ≤ w ∧ w ≤ hi)) = some i := by
    rw [List.findIdx?_eq_some_iff_getElem]
    refine ⟨hi', ?_, fun j hj => ?_⟩
    · rw [(List.getElem?_eq_some_iff.mp h).2, decide_eq_false hw]
      rfl
    · have hm : ws[j] ∈ ws.take i := by
        rw [List.mem_take_iff_getElem]
        exact ⟨j, by omega, rfl⟩
      rw [decide_eq_true (hb _ hm)]
      decide
  rw [e]
theorem bey_none {lo hi : Int} {ws : List Int} (hb : ∀ v ∈ ws, lo ≤ v ∧ v ≤ hi) : beyI lo hi ws = .non := by
  unfold beyI
  have e : ws.findIdx? (fun w => !decide (lo ≤ w ∧ w ≤ hi)) = none := by
    rw [List.findIdx?_eq_none_iff]
    intro v hv
    rw [decide_eq_true (hb v hv)]
    rfl
  rw [e]
theorem pure_first_beyondG {K a b c H Q E} (h : P_first_beyondG K a b c H Q E) : t_first_beyond K E { nx := fun _ H' => Q .non H', rt := Q } [some a, some b, some c, none, none] H := by
  obtain ⟨x, wp, wq, cd, r, W, n, lo, hi, kv, ask, n6, ru, rfl, rfl, rfl, k⟩ := h
  obtain ⟨dx, ho⟩ := ru.o
  ((try (conv => whnf)); repeat (first | (refine cndT rfl ?_; (try (conv => whnf))) | (refine cndF rfl ?_; (try (conv => whnf)))))
  left
  ((try (conv => whnf)); repeat (first | (refine cndT rfl ?_; (try (conv => whnf))) | (refine cndF rfl ?_; (try (conv => whnf)))))
  refine ⟨r, _, dx, _, _, rfl, ho, ru.k.cls, ru.k.n1, ruF_1, ?_⟩
  ((try (conv => whnf)); repeat (first | (refine cndT rfl ?_; (try (conv => whnf))) | (refine cndF rfl ?_; (try (conv => whnf)))))
  refine .inr ⟨x, wp, wq, cd, W, n, kv, ask, n6, rfl, rfl, rfl, fun l H1 nl s1 hl => ?_⟩
  generalize wRow W.hv (cF kv) n = ws at k hl
  refine .inl ⟨l, _, rfl, SqL.of hl, ?_⟩
  refine forIt (walk_enum (xs := ws.map V.int)) (fun i σ H' => Same H1 H' ∧ (∀ v ∈ ws.take i, lo ≤ v ∧ v ≤ hi) ∧ ∃ v3 v4 : Option V, σ = [some (.ref x), some (.ref r), some (.ref cd), v3, v4]) ⟨Same.refl _, (fun v hv => by cases hv), _, _, rfl⟩ ?_ ?_ ?_
  · rintro i σ H' _ ⟨s, _⟩
    exact SqL.of (s _ _ hl)
  · rintro i y σ H2 H3 _ ⟨s2, hb, v3, v4, rfl⟩ ⟨T, k', v', rfl, nT, e3, hk, hv⟩
    cases hk
    replace hv : (ws.map V.int)[i]? = some v' := hv
    rw [List.getElem?_map] at hv
    obtain ⟨w, hw, rfl⟩ := Option.map_eq_some_iff.mp hv
    have s3 := sameOf nT e3.symm
    have eT := atOf e3.symm
    clear e3
    have s03 := (s1.trans s2).trans s3
    refine ⟨T, _, rfl, SqT.of eT, rfl, _, _, rfl, _, _, rfl, rfl, ?_⟩
    ((try (conv => whnf)); repeat (first | (refine cndT rfl ?_; (try (conv => whnf))) | (refine cndF rfl ?_; (try (conv => whnf)))))
    refine ⟨r, dx, _, rfl, s03 _ _ ho, ruF_n (by decide +kernel) (by decide +kernel) (by decide +kernel), ?_⟩
    ((try (conv => whnf)); repeat (first | (refine cndT rfl ?_; (try (conv => whnf))) | (refine cndF rfl ?_; (try (conv => whnf)))))
    refine ⟨r, n, lo, hi, w, rfl, ⟨ru.k, dx, s03 _ _ ho⟩, rfl, ?_⟩
    by_cases c : lo ≤ w ∧ w ≤ hi
    · rw [decide_eq_true c]
      ((try (conv => whnf)); repeat (first | (refine cndT rfl ?_; (try (conv => whnf))) | (refine cndF rfl ?_; (try (conv => whnf)))))
      refine ⟨s2.trans s3, fun v hv => ?_, _, _, rfl⟩
      rw [List.take_add_one, hw] at hv
      rcases List.mem_append.mp hv with hv | hv
      · exact hb v hv
      · have : v = w := by simpa using hv
        rw [this]
        exact c
    · rw [decide_eq_false c]
      ((try (conv => whnf)); repeat (first | (refine cndT rfl ?_; (try (conv => whnf))) | (refine cndF rfl ?_; (try (conv => whnf)))))
      rw [bey_at hw c hb] at k
      exact k H3 s03
  · rintro σ H2 ⟨s2, hb, v3, v4, rfl⟩
    ((try (conv => whnf)); repeat (first | (refine cndT rfl ?_; (try (conv => whnf))) | (refine cndF rfl ?_; (try (conv => whnf)))))
    rw [bey_none (fun v hv => hb v (by rw [List.length_map, List.take_of_length_le (Nat.le_refl _)]; exact hv))] at k
    exact k H2 (s1.trans s2)
theorem pure_first_beyond {K a b c H Q E} (h : P_first_beyond K a b c H Q E) : t_first_beyond K E { nx := fun _ H' => Q .non H', rt := Q } [some a, some b, some c, none, none] H := by
  rcases h with h | h
  · obtain ⟨r, n, lo, hi, rfl, ru, hb⟩ := h
    obtain ⟨dx, ho⟩ := ru.o
    ((try (conv => whnf)); repeat (first | (refine cndT rfl ?_; (try (conv => whnf))) | (refine cndF rfl ?_; (try (conv => whnf)))))
    left
    ((try (conv => whnf)); repeat (first | (refine cndT rfl ?_; (try (conv => whnf))) | (refine cndF rfl ?_; (try (conv => whnf)))))
    refine ⟨r, _, dx, _, _, rfl, ho, ru.k.cls, ru.k.n1, ruF_1, ?_⟩
    ((try (conv => whnf)); repeat (first | (refine cndT rfl ?_; (try (conv => whnf))) | (refine cndF rfl ?_; (try (conv => whnf)))))
    exact .inl hb
  · exact pure_first_beyondG h

end Wk27
namespace Wk27
open PySem L2 PySem.Spec PyProof.Rows Rf
theorem kI_inj : ∀ a b, kI a = kI b → a = b := fun _ _ h => Sum.inl.inj h
theorem getA_app1 {α : Type} [DecidableEq α] {l : List (α × Int)} {k j : α} {v : Int} : getA (l ++ [(k, v)]) j = (getA l j).or (if k = j then some v else none) := by
  unfold getA
  rw [List.find?_append]
  cases h : l.find? fun p => decide (p.1 = j) with
  | some p => rfl
  | none =>
    show Option.map Prod.snd ([(k, v)].find? fun p => decide (p.1 = j)) = _
    rw [List.find?_cons]
    by_cases c : k = j
    · rw [decide_eq_true c, if_pos c]; rfl
    · rw [decide_eq_false c, if_neg c]; rfl
theorem numStep_keep {f : Str → Int} {nw : List (Int × Int)} {z : Str} {k v : Int} (h : getA nw k = some v) : getA (numStep f nw z) k = some v := by
  unfold numStep
  split
  · exact h
  · rw [getA_app1, h]; rfl
theorem numStep_some {f : Str → Int} {nw : List (Int × Int)} {z : Str} : (getA (numStep f nw z) (f z)).isSome = true := by
  unfold numStep
  split
  · assumption
  · rw [getA_app1, if_pos rfl]
    cases getA nw (f z) <;> rfl
theorem numStep_len {f : Str → Int} {nw : List (Int × Int)} {z : Str} : (numStep f nw z).length ≤ nw.length + 1 := by
  unfold numStep
  split
  · omega
  · rw [List.length_append]; exact Nat.le_refl _
theorem num_len (f : Str → Int) : ∀ (nm : List Str) (nw : List (Int × Int)), (nm.foldl (numStep f) nw).length ≤ nw.length + nm.length
  | [], _ => Nat.le_refl _
  | z :: r, nw => by
    have := num_len f r (numStep f nw z)
    have := numStep_len (f := f) (nw := nw) (z := z)
    rw [List.foldl_cons, List.length_cons]
    omega
theorem num_snoc (f : Str → Int) (nm : List Str) (z : Str) : numNew f (nm ++ [z]) = numStep f (numNew f nm) z := by
  unfold numNew
  rw [List.foldl_append]
  rfl
theorem num_some (f : Str → Int) (nm : List Str) : ∀ z ∈ nm, (getA (numNew f nm) (f z)).isSome = true := by
  have key : ∀ (r : List Str) (nw : List (Int × Int)) (k v : Int), getA nw k = some v → getA (r.foldl (numStep f) nw) k = some v := by
    intro r
    induction r with
    | nil => intro nw k v h; exact h
    | cons z r ih => intro nw k v h; exact ih _ _ _ (numStep_keep h)
  have main : ∀ (r : List Str) (nw : List (Int × Int)), ∀ z ∈ r, (getA (r.foldl (numStep f) nw) (f z)).isSome = true := by
    intro r
    induction r with
    | nil => intro nw z hz; cases hz
    | cons y r ih =>
      intro nw z hz
      rcases List.mem_cons.mp hz with rfl | hz
      · obtain ⟨v, hv⟩ := Option.isSome_iff_exists.mp (numStep_some (f := f) (nw := nw) (z := z))
        rw [List.foldl_cons, key r _ _ v hv]
        rfl
      · exact ih _ z hz
  exact main nm []
theorem numW_snoc (f : Str → Int) (nm : List Str) (z : Str) : numW (nm ++ [z]) f = numW nm f ++ [(z, (getA (numStep f (numNew f nm) z) (f z)).getD 0)] := by
  unfold numW
  rw [List.map_append, num_snoc]
  congr 1
  refine List.map_congr_left fun y hy => ?_
  obtain ⟨v, hv⟩ := Option.isSome_iff_exists.mp (num_some f nm y hy)
  rw [hv, numStep_keep hv]
theorem numW_keys (f : Str → Int) (nm : List Str) : (numW nm f).map Prod.fst = nm := by
  unfold numW
  rw [List.map_map]
  exact List.map_id _
theorem pure_numberedG {K a b c H Q E} (h : P_numberedG K a b c H Q E) : t_numbered K E { nx := fun _ H' => Q .non H', rt := Q } [some a, some b, some c, none, none, none] H := by
  obtain ⟨x, wp, wq, cd, W, n, kv, ask, rfl, rfl, rfl, k⟩ := h
  obtain ⟨dx, ho⟩ := ask.web.o
  ((try (conv => whnf)); repeat (first | (refine cndT rfl ?_; (try (conv => whnf))) | (refine cndF rfl ?_; (try (conv => whnf)))))
  refine ⟨x, wp, wq, W, n, rfl, ⟨ask.web, ask.hl, ask.nd⟩, rfl, .inl ⟨kv, ⟨cd, rfl, ask.cd, ask.ck⟩, fun H1 s1 => ?_⟩⟩
  ((try (conv => whnf)); repeat (first | (refine cndT rfl ?_; (try (conv => whnf))) | (refine cndF rfl ?_; (try (conv => whnf)))))
  left
  (intro nw_ nnw; generalize hG : _root_.L2.upd _ nw_ _ = H2; have s2 := sameOf nnw hG; have e2 := atOf hG; clear hG; ((try (conv => whnf)); repeat (first | (refine cndT rfl ?_; (try (conv => whnf))) | (refine cndF rfl ?_; (try (conv => whnf))))))
  left
  (intro fd nfd; generalize hG : _root_.L2.upd _ fd _ = H3; have s3 := sameOf nfd hG; have e3 := atOf hG; clear hG; ((try (conv => whnf)); repeat (first | (refine cndT rfl ?_; (try (conv => whnf))) | (refine cndF rfl ?_; (try (conv => whnf))))))
  have s13 := s2.trans s3
  have nfn : fd ≠ nw_ := (ne_of_none e2 nfd).symm
  have nwH : H nw_ = none := s1.free nnw
  have nfH : H fd = none := (s1.trans s2).free nfd
  have ck := ask.ck
  have hnd := ask.nd
  have hhl := ask.hl
  generalize hnm : W.hv.map Prod.fst = nm at ck hnd k
  have hnl : nm.length ≤ 60 := by rw [← hnm, List.length_map]; exact hhl
  left
  ((try (conv => whnf)); repeat (first | (refine cndT rfl ?_; (try (conv => whnf))) | (refine cndF rfl ?_; (try (conv => whnf)))))
  refine ⟨x, dx, _, rfl, (s1.trans s13) _ _ ho, webF_n (by decide +kernel) (by decide +kernel), ?_⟩
  ((try (conv => whnf)); repeat (first | (refine cndT rfl ?_; (try (conv => whnf))) | (refine cndF rfl ?_; (try (conv => whnf)))))
  refine ⟨x, wp, wq, W, rfl, ask.web.same (s1.trans s13), fun l H4 nl s4 e4 => ?_⟩
  have e4' : H4 l = some (.lst (nm.map V.str)) := by rw [e4, ← hnm, List.map_map]; rfl
  have nlf : l ≠ fd := (ne_of_none e3 nl).symm
  have nln : l ≠ nw_ := (ne_of_none (s3 _ _ e2) nl).symm
  have s04 : Same H H4 := (s1.trans s13).trans s4
  refine .inl ⟨_, SqL.of e4', ?_⟩
  refine forL (SqL.of e4') (fun i σ H' => Same H H' ∧ H' l = some (.lst (nm.map V.str)) ∧ H' nw_ = some (.dK (emb kI (numNew (cF kv) (nm.take i)))) ∧ H' fd = some (.dK (emb kS (numW (nm.take i) (cF kv)))) ∧ ∃ v5 : Option V, σ = [some (.ref x), some (.int n), some (.ref cd), some (.ref nw_), some (.ref fd), v5]) ⟨s04, e4', s4 _ _ (s3 _ _ e2), s4 _ _ e3, _, rfl⟩ ?_ ?_ ?_
  · rintro i σ H' _ ⟨_, h1, _⟩
    exact SqL.of h1
  · rintro i y σ H5 hy ⟨s5, el5, en5, ef5, v5, rfl⟩
    rw [List.getElem?_map] at hy
    obtain ⟨z, hz, rfl⟩ := Option.map_eq_some_iff.mp hy
    obtain ⟨w, hw, _⟩ := ck.get (List.mem_of_getElem? hz)
    have hcf : cF kv z = w := by unfold cF; rw [hw]; rfl
    have g := DGet.k (k := kS z) (s5 _ _ ask.cd)
    rw [emb_val kS_inj, hw] at g
    have et : nm.take (i + 1) = nm.take i ++ [z] := by rw [List.take_add_one, hz]; rfl
    have hnlen : (numNew (cF kv) (nm.take i)).length ≤ 60 := by
      have := num_len (cF kv) (nm.take i) []
      rw [List.length_take] at this
      show ((nm.take i).foldl (numStep (cF kv)) []).length ≤ 60
      have h0 : ([] : List (Int × Int)).length = 0 := rfl
      omega
    have hnone : getA (numW (nm.take i) (cF kv)) z = none := fresh_take hnd hz (numW_keys _ _)
    have hflen : (numW (nm.take i) (cF kv)).length ≤ 60 := by
      have := congrArg List.length (numW_keys (cF kv) (nm.take i))
      rw [List.length_map, List.length_take] at this
      omega
    ((try (conv => whnf)); repeat (first | (refine cndT rfl ?_; (try (conv => whnf))) | (refine cndF rfl ?_; (try (conv => whnf)))))
    refine ⟨nw_, rfl, .inl ⟨_, .inl en5⟩, ?_⟩
    ((try (conv => whnf)); repeat (first | (refine cndT rfl ?_; (try (conv => whnf))) | (refine cndF rfl ?_; (try (conv => whnf)))))
    refine ixD g ?_
    ((try (conv => whnf)); repeat (first | (refine cndT rfl ?_; (try (conv => whnf))) | (refine cndF rfl ?_; (try (conv => whnf)))))
    refine .inr (.inr (.inl ⟨_, en5, ?_⟩))
    rw [emb_len]
    refine ⟨_, kI w, en5, rfl, by rw [emb_len, sizeLine_eq]; omega, fun v hv => ?_, fun hv => ?_⟩
    · rw [emb_val kI_inj] at hv
      obtain ⟨u, hu, rfl⟩ := Option.map_eq_some_iff.mp hv
      have hstep : numStep (cF kv) (numNew (cF kv) (nm.take i)) z = numNew (cF kv) (nm.take i) := by
        unfold numStep
        rw [hcf, hu, if_pos (by rfl)]
      ((try (conv => whnf)); repeat (first | (refine cndT rfl ?_; (try (conv => whnf))) | (refine cndF rfl ?_; (try (conv => whnf)))))
      refine setD rfl (DPut.k (k := kS z) ef5 (by rw [emb_len, sizeLine_eq]; omega)) ?_
      (generalize hG : _root_.L2.upd _ fd _ = H6; have b6 := butOf hG; have e6 := atOf hG; clear hG; ((try (conv => whnf)); repeat (first | (refine cndT rfl ?_; (try (conv => whnf))) | (refine cndF rfl ?_; (try (conv => whnf))))))
      rw [emb_put kS_inj, getA_app hnone] at e6
      refine ⟨fun b o e => b6.at (s5 _ _ e) (ne_n (some_ne e) nfH), b6.at el5 nlf, ?_, ?_, _, rfl⟩
      · rw [et, num_snoc, hstep]
        exact b6.at en5 nfn.symm
      · rw [e6, et, numW_snoc, hstep, hcf, hu]
        rfl
    · rw [emb_val kI_inj] at hv
      have hu : getA (numNew (cF kv) (nm.take i)) w = none := by
        cases h : getA (numNew (cF kv) (nm.take i)) w with
        | none => rfl
        | some u => rw [h] at hv; cases hv
      have hstep : numStep (cF kv) (numNew (cF kv) (nm.take i)) z = numNew (cF kv) (nm.take i) ++ [(w, ((numNew (cF kv) (nm.take i)).length : Int))] := by
        unfold numStep
        rw [hcf, hu, if_neg (by simp)]
      (generalize hG : _root_.L2.upd _ nw_ _ = H6; have b6 := butOf hG; have e6 := atOf hG; clear hG; ((try (conv => whnf)); repeat (first | (refine cndT rfl ?_; (try (conv => whnf))) | (refine cndF rfl ?_; (try (conv => whnf))))))
      rw [emb_put kI_inj, getA_app hu] at e6
      have ef6 := b6.at ef5 nfn
      refine setD rfl (DPut.k (k := kS z) ef6 (by rw [emb_len, sizeLine_eq]; omega)) ?_
      (generalize hG : _root_.L2.upd _ fd _ = H7; have b7 := butOf hG; have e7 := atOf hG; clear hG; ((try (conv => whnf)); repeat (first | (refine cndT rfl ?_; (try (conv => whnf))) | (refine cndF rfl ?_; (try (conv => whnf))))))
      rw [emb_put kS_inj, getA_app hnone] at e7
      refine ⟨fun b o e => b7.at (b6.at (s5 _ _ e) (ne_n (some_ne e) nwH)) (ne_n (some_ne e) nfH), b7.at (b6.at el5 nln) nlf, ?_, ?_, _, rfl⟩
      · rw [et, num_snoc, hstep]
        exact b7.at e6 nfn.symm
      · rw [e7, et, numW_snoc, hstep, hcf, getA_app1, hu, if_pos rfl]
        rfl
  · rintro σ H5 ⟨s5, el5, en5, ef5, v5, rfl⟩
    rw [List.length_map, List.take_of_length_le (Nat.le_refl _)] at ef5
    ((try (conv => whnf)); repeat (first | (refine cndT rfl ?_; (try (conv => whnf))) | (refine cndF rfl ?_; (try (conv => whnf)))))
    exact k fd H5 nfH s5 ef5
theorem pure_numbered {K a b c H Q E} (h : P_numbered K a b c H Q E) : t_numbered K E { nx := fun _ H' => Q .non H', rt := Q } [some a, some b, some c, none, none, none] H := by
  rcases h with h | h
  · obtain ⟨x, wp, wq, W, n, h1, h2, h3, h4, h5, h6⟩ := h
    ((try (conv => whnf)); repeat (first | (refine cndT rfl ?_; (try (conv => whnf))) | (refine cndF rfl ?_; (try (conv => whnf)))))
    exact ⟨x, wp, wq, W, n, h1, h2, h3, .inr ⟨h4, h5, h6⟩⟩
  · exact pure_numberedG h
theorem pure_apart_at {K a b c d H Q E} (h : P_apart_at K a b c d H Q E) : t_apart_at K E { nx := fun _ H' => Q .non H', rt := Q } [some a, some b, some c, some d, none] H := by
  rcases h with h | ⟨⟨x, wp, wq, cd, W, n, kv, ask, rfl, rfl, rfl⟩, h⟩
  · obtain ⟨x, wp, wq, W, n, h1, h2, h3, h4, h5, h6⟩ := h
    ((try (conv => whnf)); repeat (first | (refine cndT rfl ?_; (try (conv => whnf))) | (refine cndF rfl ?_; (try (conv => whnf)))))
    exact ⟨x, wp, wq, W, n, h1, h2, h3, .inr ⟨h4, h5, h6⟩⟩
  · ((try (conv => whnf)); repeat (first | (refine cndT rfl ?_; (try (conv => whnf))) | (refine cndF rfl ?_; (try (conv => whnf)))))
    refine ⟨x, wp, wq, W, n, rfl, ⟨ask.web, ask.hl, ask.nd⟩, rfl, .inl ⟨kv, ⟨cd, rfl, ask.cd, ask.ck⟩, fun H1 s1 => ?_⟩⟩
    ((try (conv => whnf)); repeat (first | (refine cndT rfl ?_; (try (conv => whnf))) | (refine cndF rfl ?_; (try (conv => whnf)))))
    obtain ⟨x', wp', wq', W', n', h1, h2, h3, h4, h5, h6⟩ := h.same s1
    exact ⟨x', wp', wq', W', n', h1, h2, h3, .inr ⟨h4, h5, h6⟩⟩
theorem pure_orders_of {K a H Q E} (h : P_orders_of K a H Q E) : t_orders_of K E { nx := fun _ H' => Q .non H', rt := Q } [some a, none, none, none, none, none] H := False.elim h
theorem pure_agreeing {K a b H Q E} (h : P_agreeing K a b H Q E) : t_agreeing K E { nx := fun _ H' => Q .non H', rt := Q } [some a, some b, none, none] H := False.elim h
theorem pure_nearest {K a b c d H Q E} (h : P_nearest K a b c d H Q E) : t_nearest K E { nx := fun _ H' => Q .non H', rt := Q } [some a, some b, some c, some d, none, none, none, none, none, none, none, none] H := by
  rcases h with h | ⟨⟨x, wp, wq, cd, W, n, kv, ask, rfl, rfl, rfl⟩, h⟩
  · obtain ⟨x, wp, wq, W, n, h1, h2, h3, h4, h5, h6⟩ := h
    ((try (conv => whnf)); repeat (first | (refine cndT rfl ?_; (try (conv => whnf))) | (refine cndF rfl ?_; (try (conv => whnf)))))
    exact ⟨x, wp, wq, W, n, h1, h2, h3, .inr ⟨h4, h5, h6⟩⟩
  · ((try (conv => whnf)); repeat (first | (refine cndT rfl ?_; (try (conv => whnf))) | (refine cndF rfl ?_; (try (conv => whnf)))))
    refine ⟨x, wp, wq, W, n, rfl, ⟨ask.web, ask.hl, ask.nd⟩, rfl, .inl ⟨kv, ⟨cd, rfl, ask.cd, ask.ck⟩, fun H1 s1 => ?_⟩⟩
    ((try (conv => whnf)); repeat (first | (refine cndT rfl ?_; (try (conv => whnf))) | (refine cndF rfl ?_; (try (conv => whnf)))))
    obtain ⟨x', wp', wq', W', n', h1, h2, h3, h4, h5, h6⟩ := h.same s1
    exact ⟨x', wp', wq', W', n', h1, h2, h3, .inr ⟨h4, h5, h6⟩⟩

end Wk27
namespace Wk27
open PySem L2 PySem.Spec PyProof.Rows Rf
theorem DoorO.badQ {K H x wp wq cd r W n lo hi kv v E} (h : DoorO K H x wp wq cd r W n lo hi kv v) (rz : ∀ H', Same H H' → Rz K E H' ("NoCutting", [("found", v)])) : BadQ K H (.ref x) (.int (n : Nat)) v E :=
  ⟨x, wp, wq, W, n, rfl, ⟨h.ask.web, h.ask.hl, h.ask.nd⟩, rfl, h.ek, h.bad, rz⟩
theorem pure_l_called {K a b c d e f H Q E} (h : P_l_called K a b c d e f H Q E) : t_l_called K E { nx := fun _ H' => Q .non H', rt := Q } [some a, some b, some c, some d, some e, some f] H := by
  obtain ⟨x, wp, wq, cd, r, W, n, lo, hi, kv, k, rfl, rfl, rfl, rfl, rfl, k0, k1, dr, rz⟩ := h
  have bq := dr.badQ rz
  have b2 : BadQ2 K H (.ref x) (.int (n : Nat)) (.ref cd) e E := .inr ⟨⟨x, wp, wq, cd, W, n, kv, dr.ask, rfl, rfl, rfl⟩, bq⟩
  rcases (by omega : k = 0 ∨ k = 1 ∨ k = 2 ∨ k = 3 ∨ k = 4 ∨ k = 5 ∨ k = 6 ∨ k = 7 ∨ k = 8 ∨ k = 9 ∨ k = 10) with rfl | rfl | rfl | rfl | rfl | rfl | rfl | rfl | rfl | rfl | rfl
  · ((try (conv => whnf)); repeat (first | (refine cndT rfl ?_; (try (conv => whnf))) | (refine cndF rfl ?_; (try (conv => whnf)))))
    exact .inl bq
  · ((try (conv => whnf)); repeat (first | (refine cndT rfl ?_; (try (conv => whnf))) | (refine cndF rfl ?_; (try (conv => whnf)))))
    exact bq
  · ((try (conv => whnf)); repeat (first | (refine cndT rfl ?_; (try (conv => whnf))) | (refine cndF rfl ?_; (try (conv => whnf)))))
    exact .inl bq
  · ((try (conv => whnf)); repeat (first | (refine cndT rfl ?_; (try (conv => whnf))) | (refine cndF rfl ?_; (try (conv => whnf)))))
    exact .inl bq
  · ((try (conv => whnf)); repeat (first | (refine cndT rfl ?_; (try (conv => whnf))) | (refine cndF rfl ?_; (try (conv => whnf)))))
    exact .inl bq
  · ((try (conv => whnf)); repeat (first | (refine cndT rfl ?_; (try (conv => whnf))) | (refine cndF rfl ?_; (try (conv => whnf)))))
    exact .inl ⟨r, n, lo, hi, rfl, dr.ru, bq⟩
  · ((try (conv => whnf)); repeat (first | (refine cndT rfl ?_; (try (conv => whnf))) | (refine cndF rfl ?_; (try (conv => whnf)))))
    exact .inl bq
  · ((try (conv => whnf)); repeat (first | (refine cndT rfl ?_; (try (conv => whnf))) | (refine cndF rfl ?_; (try (conv => whnf)))))
    exact .inl bq
  · ((try (conv => whnf)); repeat (first | (refine cndT rfl ?_; (try (conv => whnf))) | (refine cndF rfl ?_; (try (conv => whnf)))))
    exact b2
  · ((try (conv => whnf)); repeat (first | (refine cndT rfl ?_; (try (conv => whnf))) | (refine cndF rfl ?_; (try (conv => whnf)))))
    exact .inl bq
  · ((try (conv => whnf)); repeat (first | (refine cndT rfl ?_; (try (conv => whnf))) | (refine cndF rfl ?_; (try (conv => whnf)))))
    exact b2

end Wk27
namespace Wk27
open PySem L2 PySem.Spec PyProof.Rows Rf
theorem isXv {K : PySem.W.Frag} {a dd : Addr} {c : Str} {f : List Str} {fs : List (Str × V)} {H : Hp} {Q : VK} (ek : EK K) (he : (c, f) ∈ errsL) (hd : H dd = some (.xd fs)) (q : Q (.bl true) H) : rIsi2 K a (.ref (He.ga K c)) (some dd) [.ref a, .ty "ValueError"] H Q := by
  unfold rIsi2
  right
  unfold rIsX
  exact ⟨_, _, true, rfl, rfl, ek.isc _ he, ⟨fs, hd⟩, .inl ⟨_, fun u hu => hu, ek.val _ he⟩, q⟩
theorem sqT_same {K : PySem.W.Frag} {H H' : Hp} {a : Addr} {xs : List V} (s : Same H H') (h : SqT K H a xs) : SqT K H' a xs := by
  rcases h with (h | ⟨o, h⟩) | h
  · exact .inl (.inl (s _ _ h))
  · exact .inl (.inr ⟨o, s _ _ h⟩)
  · exact .inr h
mutual
theorem sd_same {K : PySem.W.Frag} {H H' : Hp} (s : Same H H') : ∀ {d : PyData} {v : V}, Sd K H v d → Sd K H' v d
  | .none, _, h => by cases h; exact .non
  | .bool b, _, h => by cases h; exact .bl b
  | .int i, _, h => by cases h; exact .int i
  | .str x, _, h => by cases h; exact .str x
  | .list ds, _, h => by
    cases h with
    | lst q h => exact .lst (s.seq q) (sdAll_same s h)
  | .tuple ds, _, h => by
    cases h with
    | tup q h => exact .tup (sqT_same s q) (sdAll_same s h)
  | .dict kvs, _, h => by
    cases h with
    | emK e => exact .emK (s _ _ e)
    | emT e => exact .emT (s _ _ e)
    | dic e h => exact .dic (s _ _ e) (sdKV_same s h)
theorem sdAll_same {K : PySem.W.Frag} {H H' : Hp} (s : Same H H') : ∀ {ds : List PyData} {vs : List V}, SdAll K H vs ds → SdAll K H' vs ds
  | [], _, h => by cases h; exact .nil
  | d :: ds, _, h => by
    cases h with
    | cons h1 h2 => exact .cons (sd_same s h1) (sdAll_same s h2)
theorem sdKV_same {K : PySem.W.Frag} {H H' : Hp} (s : Same H H') : ∀ {ds : List (PyData × PyData)} {kvs : List (Key × V)}, SdKV K H kvs ds → SdKV K H' kvs ds
  | [], _, h => by cases h; exact .nil
  | (_, d) :: ds, _, h => by
    cases h with
    | cons h1 h2 => exact .cons (sd_same s h1) (sdKV_same s h2)
end
theorem ThR.same {K H H' v} (h : ThR K H v) (s : Same H H') : ThR K H' v := by
  obtain ⟨d, h1, h2⟩ := h
  exact ⟨d, sd_same s h1, h2⟩
theorem oneShown {d : PyData} (h : d.shown.length ≤ 5000000) : (PyData.shown (.list [d])).length ≤ sizeLine := by
  have e := listText_len_le [d.shown]
  show (listText [d.shown]).length ≤ sizeLine
  simp only [List.map_cons, List.map_nil, List.sum_cons, List.sum_nil, List.length_cons, List.length_nil] at e
  rw [sizeLine_eq]
  omega
theorem pure_l_refused {K a b c d e f H Q E} (h : P_l_refused K a b c d e f H Q E) : t_l_refused K E { nx := fun _ H' => Q .non H', rt := Q } [some a, some b, some c, some d, some e, some f, none, none] H := by
  obtain ⟨x, wp, wq, cd, r, W, n, lo, hi, kv, k, rfl, rfl, rfl, rfl, rfl, k0, k1, dr, th, kk⟩ := h
  have ek := dr.ek
  have he : (("NoCutting" : Str), (["found"] : List Str)) ∈ errsL := by decide +kernel
  ((try (conv => whnf)); repeat (first | (refine cndT rfl ?_; (try (conv => whnf))) | (refine cndF rfl ?_; (try (conv => whnf)))))
  refine ⟨x, wp, wq, cd, r, W, n, lo, hi, kv, k, rfl, rfl, rfl, rfl, rfl, k0, k1, dr, fun H1 s1 => ?_⟩
  intro dd H3 nd s3 e3
  refine ⟨true, ek.exm _ he, fun _ ea na => ?_, fun z => nomatch z⟩
  ((try (conv => whnf)); repeat (first | (refine cndT rfl ?_; (try (conv => whnf))) | (refine cndF rfl ?_; (try (conv => whnf)))))
  refine isX (c := "NoCutting") ek he (t := "NoCutting") (b := true) (by decide +kernel) (by decide +kernel) e3 ?_
  ((try (conv => whnf)); repeat (first | (refine cndT rfl ?_; (try (conv => whnf))) | (refine cndF rfl ?_; (try (conv => whnf)))))
  refine ⟨by show 2 ≤ sizeLine; decide, ?_⟩
  (intro T2 nT2; generalize hG : _root_.L2.upd _ T2 _ = H5; have s5 := sameOf nT2 hG; have e5 := atOf hG; clear hG; ((try (conv => whnf)); repeat (first | (refine cndT rfl ?_; (try (conv => whnf))) | (refine cndF rfl ?_; (try (conv => whnf))))))
  refine isXt (c := "NoCutting") ["NoParts", "NoPlace"] ek he (by decide +kernel) (b := false) (by decide +kernel) e5 (s5 _ _ e3) ?_
  ((try (conv => whnf)); repeat (first | (refine cndT rfl ?_; (try (conv => whnf))) | (refine cndF rfl ?_; (try (conv => whnf)))))
  refine isXv (c := "NoCutting") ek he (s5 _ _ e3) ?_
  ((try (conv => whnf)); repeat (first | (refine cndT rfl ?_; (try (conv => whnf))) | (refine cndF rfl ?_; (try (conv => whnf)))))
  right
  ((try (conv => whnf)); repeat (first | (refine cndT rfl ?_; (try (conv => whnf))) | (refine cndF rfl ?_; (try (conv => whnf)))))
  refine fdX (c := "NoCutting") (v := e) ek he (n := "found") (by decide +kernel) (s5 _ _ e3) (by rfl) ?_
  ((try (conv => whnf)); repeat (first | (refine cndT rfl ?_; (try (conv => whnf))) | (refine cndF rfl ?_; (try (conv => whnf)))))
  refine ⟨by show 1 ≤ sizeLine; decide, ?_⟩
  (intro T6 nT6; generalize hG : _root_.L2.upd _ T6 _ = H6; have s6 := sameOf nT6 hG; have e6 := atOf hG; clear hG; ((try (conv => whnf)); repeat (first | (refine cndT rfl ?_; (try (conv => whnf))) | (refine cndF rfl ?_; (try (conv => whnf))))))
  have s06 : Same H H6 := ((s1.trans s3).trans s5).trans s6
  obtain ⟨d, hd, h1, h2, h3⟩ := th.same s06
  have hs : (PyData.list [d]).showable = true := by
    show (d.showable && true) = true
    rw [h1]
    rfl
  have hdp : (PyData.list [d]).depth ≤ 90 := by
    show max d.depth 0 + 1 ≤ 90
    omega
  refine ⟨T6, .list [d], rfl, .inr (.lst (SqL.of e6) (.cons hd .nil)), hs, hdp, oneShown h3, ?_⟩
  ((try (conv => whnf)); repeat (first | (refine cndT rfl ?_; (try (conv => whnf))) | (refine cndF rfl ?_; (try (conv => whnf)))))
  refine ⟨by show 1 ≤ sizeLine; decide, ?_⟩
  (intro T7 nT7; generalize hG : _root_.L2.upd _ T7 _ = H7; have s7 := sameOf nT7 hG; have e7 := atOf hG; clear hG; ((try (conv => whnf)); repeat (first | (refine cndT rfl ?_; (try (conv => whnf))) | (refine cndF rfl ?_; (try (conv => whnf))))))
  refine ⟨T7, .list [d], rfl, .inr (.lst (SqL.of e7) (.cons (sd_same s7 hd) .nil)), hs, hdp, oneShown h3, ?_⟩
  ((try (conv => whnf)); repeat (first | (refine cndT rfl ?_; (try (conv => whnf))) | (refine cndF rfl ?_; (try (conv => whnf)))))
  rw [decide_eq_true (rfl : (PyData.list [d]).shown = (PyData.list [d]).shown)]
  exact kk H7 (s06.trans s7)

end Wk27
namespace Wk27
open PySem L2 PySem.Spec PyProof.Rows Rf
theorem PrO.neT {H : Hp} {p q : Addr} {l : List (List Key × V)} (h : PrO H p) (e : H q = some (.dT l)) : p ≠ q := fun z => by
  obtain ⟨_, _, _, _, u⟩ := h
  rw [z, e] at u
  cases u
theorem PrO.neO {K H p x wp wq W} (h : PrO H p) (hw : WebO K H x wp wq W) : x ≠ p := fun z => by
  obtain ⟨_, _, _, _, u⟩ := h
  obtain ⟨_, o⟩ := hw.o
  rw [z, u] at o
  cases o
theorem WebO.pr {K H H' x wp wq W p} (h : WebO K H x wp wq W) (hp : PrO H p) (n : wp ≠ p) (k : Kx [p] H H') : WebO K H' x wp wq W := ⟨h.k, (let ⟨dx, e⟩ := h.o; ⟨dx, k _ _ (by simp; exact hp.neO h) e⟩), k _ _ (by simp; exact n) h.hv, k _ _ (by simp; exact (hp.neT h.kn).symm) h.kn⟩
theorem AskO.kx {K H H' x wp wq cd W n kv p} (h : AskO K H x wp wq cd W n kv) (hp : PrO H p) (n1 : wp ≠ p) (n2 : cd ≠ p) (k : Kx [p] H H') : AskO K H' x wp wq cd W n kv := ⟨h.web.pr hp n1 k, h.nd, h.hl, h.kl, h.ends, k _ _ (by simp; exact n2) h.cd, h.ck⟩
theorem MdOk.keys {M W} (h : MdOk M W) : W.hv.map Prod.fst = M.nm := by rw [h.hv, zip_fst h.wl]
theorem MdOk.rank {M W} (h : MdOk M W) {z : Str} {i : Nat} (hz : M.nm[i]? = some z) : rankA W.hv z = i := by
  rw [← h.keys, List.getElem?_map] at hz
  obtain ⟨e, he, rfl⟩ := Option.map_eq_some_iff.mp hz
  exact rank_at (by rw [h.keys]; exact h.nd) he
theorem paired_map {α β : Type} {R : α → β → Prop} {g : β → α} {l : List α} {m : List β} (p : Paired R l m) (h : ∀ a ∈ l, ∀ b, R a b → g b = a) : m.map g = l := by
  induction p with
  | nil => rfl
  | cons r _ ih => rw [List.map_cons, h _ (List.mem_cons_self ..) _ r, ih fun a ha => h a (List.mem_cons_of_mem _ ha)]
theorem MdOk.told {M W} (h : MdOk M W) : W.kn.map (tieT W) = M.ti.map (nmT M.nm) := by
  refine paired_map h.kn fun e he f fl => ?_
  obtain ⟨⟨a, b, t1, t2, t3⟩, _⟩ := h.named e he
  have r1 := h.rank t2
  have r2 := h.rank t3
  unfold tieT
  rcases fl with fl | fl
  · rw [fl, if_pos (by omega)]
  · rw [fl, if_neg (by show ¬ rankA W.hv e.1.2 < rankA W.hv e.1.1; omega)]
theorem MdOk.ends {M W} (h : MdOk M W) : ∀ e ∈ W.kn, isPl W e.1.1 ∧ isPl W e.1.2 := by
  intro f hf
  obtain ⟨i, e, he, fl⟩ := flip_mem h.kn hf
  obtain ⟨⟨a, b, t1, t2, t3⟩, _⟩ := h.named e (List.mem_of_getElem? he)
  have m1 : e.1.1 ∈ W.hv.map Prod.fst := by rw [h.keys]; exact List.mem_of_getElem? t2
  have m2 : e.1.2 ∈ W.hv.map Prod.fst := by rw [h.keys]; exact List.mem_of_getElem? t3
  rcases fl with fl | fl
  · rw [fl]; exact ⟨isPl_in m1, isPl_in m2⟩
  · rw [fl]; exact ⟨isPl_in m2, isPl_in m1⟩
theorem MdO.ask {K H x wp wq ln lw lt M W} (h : MdO K H x wp wq ln lw lt M W) {cd : Addr} {n : Nat} {kv : List (Str × Int)} (hc : H cd = some (.dK (emb kS kv))) (ck : CutOk M.nm kv n) : AskO K H x wp wq cd W n kv := by
  have hl := congrArg List.length h.ok.keys
  rw [List.length_map] at hl
  have hk := Paired.length h.ok.kn
  rw [List.length_map] at hk
  have := h.ok.len
  have := h.ok.tl
  exact ⟨h.web, by rw [h.ok.keys]; exact h.ok.nd, by omega, by omega, h.ok.ends, hc, by rw [h.ok.keys]; exact ck⟩
theorem told_cF {nm : List Str} {told : List Int} {kv : List (Str × Int)} (nd : nm.Nodup) (hl : told.length = nm.length) (hp : kv.Perm (nm.zip told)) : told = nm.map (cF kv) ∧ (kv.map Prod.fst).Perm nm ∧ ∀ (i : Nat) (z : Str) (c : Int), nm[i]? = some z → told[i]? = some c → getA kv z = some c := by
  have hk : (kv.map Prod.fst).Perm nm := by
    have := hp.map Prod.fst
    rw [zip_fst hl] at this
    exact this
  have hnd := hk.nodup_iff.mpr nd
  have key : ∀ (i : Nat) (z : Str) (c : Int), nm[i]? = some z → told[i]? = some c → getA kv z = some c := fun i z c hz hc => by
    have hm : (z, c) ∈ kv := hp.symm.subset (List.mem_of_getElem? (zip_at hz hc))
    obtain ⟨j, hj⟩ := List.getElem?_of_mem hm
    exact getA_val' hnd hj
  refine ⟨List.ext_getElem? fun i => ?_, hk, key⟩
  rw [List.getElem?_map]
  cases hz : nm[i]? with
  | none =>
    have := List.getElem?_eq_none_iff.mp hz
    rw [List.getElem?_eq_none (by omega)]
    rfl
  | some z =>
    have h1 := (List.getElem?_eq_some_iff.mp hz).1
    have hc : told[i]? = some told[i] := List.getElem?_eq_getElem (by omega)
    rw [hc]
    show some told[i] = some (cF kv z)
    unfold cF
    rw [key i z _ hz hc]
    rfl
/-! ### a made web tells its ties -/
theorem MdO.kx {K H H' x wp wq ln lw lt M W} {p : Addr} (h : MdO K H x wp wq ln lw lt M W) (hp : PrO H p) (n : wp ≠ p) (k : Kx [p] H H') : MdO K H' x wp wq ln lw lt M W := by
  obtain ⟨ts, a, q⟩ := h.ti
  obtain ⟨dx, ho⟩ := h.web.o
  exact ⟨⟨h.web.k, ⟨dx, k.pr hp ho prB_ins⟩, k _ _ (by simp; exact n) h.web.hv, k.pr hp h.web.kn prB_dT⟩, k.pr hp h.nm prB_lst, k.pr hp h.ws prB_lst, ⟨ts, k.pr hp a prB_lst, Paired.mapP q fun t e ht => k.pr hp ht prB_tup⟩, h.ok⟩
abbrev lexI (x y : Int × Int) : Prop := x.1 < y.1 ∨ (x.1 = y.1 ∧ x.2 < y.2)
theorem lex_uniq : ∀ {l m : List (Int × Int)}, l.Pairwise lexI → m.Pairwise lexI → (∀ k, k ∈ l ↔ k ∈ m) → l = m
  | [], [], _, _, _ => rfl
  | [], b :: m, _, _, h => absurd ((h b).mpr (List.mem_cons_self ..)) (by simp)
  | a :: l, [], _, _, h => absurd ((h a).mp (List.mem_cons_self ..)) (by simp)
  | a :: l, b :: m, hl, hm, h => by
    obtain ⟨l1, l2⟩ := List.pairwise_cons.mp hl
    obtain ⟨m1, m2⟩ := List.pairwise_cons.mp hm
    have e : a = b := by
      refine Classical.byContradiction fun ne => ?_
      have h1 : a ∈ m := ((List.mem_cons.mp ((h a).mp (List.mem_cons_self ..))).resolve_left ne)
      have h2 : b ∈ l := ((List.mem_cons.mp ((h b).mpr (List.mem_cons_self ..))).resolve_left fun q => ne q.symm)
      have q1 := m1 a h1
      have q2 := l1 b h2
      unfold lexI at q1 q2
      omega
    subst e
    refine congrArg (List.cons a) (lex_uniq l2 m2 fun k => ⟨fun hk => ?_, fun hk => ?_⟩)
    · refine (List.mem_cons.mp ((h k).mp (List.mem_cons_of_mem _ hk))).resolve_left fun q => ?_
      have := l1 k hk
      rw [q] at this
      unfold lexI at this
      omega
    · refine (List.mem_cons.mp ((h k).mpr (List.mem_cons_of_mem _ hk))).resolve_left fun q => ?_
      have := m1 k hk
      rw [q] at this
      unfold lexI at this
      omega
theorem BtwOk.form {T kv L} (h : BtwOk T kv L) : L = (L.map Prod.fst).map fun k => (k, sumK T kv k) := by
  rw [List.map_map]
  refine (List.map_id L).symm.trans (List.map_congr_left fun e he => ?_)
  exact Prod.ext rfl (h.val e he)
theorem btw_uniq {T kv L L2} (h : BtwOk T kv L) (h2 : BtwOk T kv L2) : L = L2 := by
  have e := lex_uniq h.up h2.up fun k => (h.mem k).trans (h2.mem k).symm
  rw [h.form, h2.form, e]
def dPK (e : (Int × Int) × Int) : PyData := .tuple [.tuple [.int e.1.1, .int e.1.2], .int e.2]
theorem dPK_ok (e : (Int × Int) × Int) : (dPK e).canLay0 = true ∧ (dPK e).depth ≤ 60 := ⟨rfl, by show 2 ≤ 60; decide⟩

end Wk27
namespace Wk27
open PySem L2 PySem.Spec PyProof.Rows Rf
theorem SpV.mono {H H' : Hp} {v : V} (h : SpV H v) (k : ∀ l, H l = some (.lst [.int 1]) → H' l = some (.lst [.int 1])) : SpV H' v := by
  cases v <;> first | exact h | exact k _ h
theorem SpoO.same {H H' nm n b} (h : SpoO H nm n b) (s : Same H H') : SpoO H' nm n b := by
  obtain ⟨kvs, h1, h2, h3, h4⟩ := h
  exact ⟨kvs, s _ _ h1, h2, fun e he => ⟨(h3 e he).1, (h3 e he).2.mono fun l q => s _ _ q⟩, h4⟩
theorem SpoO.kx {H H' nm n b p} (h : SpoO H nm n b) (hp : PrO H p) (ne : b ≠ p) (k : Kx [p] H H') : SpoO H' nm n b := by
  obtain ⟨kvs, h1, h2, h3, h4⟩ := h
  exact ⟨kvs, k _ _ (by simp; exact ne) h1, h2, fun e he => ⟨(h3 e he).1, (h3 e he).2.mono fun l q => k.pr hp q prB_lst⟩, h4⟩
theorem SpV.ty {K : PySem.W.Frag} {H : Hp} {v : V} (h : SpV H v) : ∃ t, TyN K H v t := by
  cases v <;> first | exact False.elim h | skip
  · exact ⟨_, rfl⟩
  · exact ⟨_, rfl⟩
  · exact ⟨_, rfl⟩
  · exact ⟨_, rfl⟩
  · exact ⟨_, TyN.lst h⟩
theorem SpoO.bad {K : PySem.W.Frag} {H nm n b} (h : SpoO H nm n b) : BadT K H nm n (.ref b) := by
  obtain ⟨kvs, h1, h2, h3, h4 | ⟨z, hz, h4⟩ | ⟨h4, z, hz, u, h5, h6, h7⟩⟩ := h
  · exact .len h1 h4
  · exact .miss h1 hz h4
  · have hm : ∃ k, (k, u) ∈ kvs := by
      unfold valV at h5
      obtain ⟨e, he, rfl⟩ := Option.map_eq_some_iff.mp h5
      exact ⟨e.1, List.mem_of_find?_eq_some he⟩
    obtain ⟨k, hk⟩ := hm
    obtain ⟨t, ht⟩ := (h3 _ hk).2.ty (K := K)
    exact .val h1 h4 hz h5 ht h6 h7
/-- its data -/
def spD (v : V) : PyData := match v with
  | .int i => .int i
  | .bl b => .bool b
  | .str z => .str z
  | .ref _ => .list [.int 1]
  | _ => .none
theorem SpV.sd {K : PySem.W.Frag} {H : Hp} {v : V} (h : SpV H v) : Sd K H v (spD v) := by
  cases v <;> first | exact False.elim h | skip
  · exact .non
  · exact .bl _
  · exact .int _
  · exact .str _
  · exact .lst (SqL.of h) (.cons (.int 1) .nil)
theorem int30 {i : Int} (h : -(10 : Int) ^ 30 < i ∧ i < 10 ^ 30) : i.natAbs.log2 < 100 := by
  have hn : i.natAbs < 2 ^ 100 := by omega
  by_cases z : i.natAbs = 0
  · rw [z]
    decide
  · exact (Nat.log2_lt z).mpr hn
theorem SpV.ok {H : Hp} {v : V} (h : SpV H v) : (spD v).showable = true ∧ (spD v).depth ≤ 1 ∧ (spD v).weight ≤ 200 ∧ (spD v).leavesShort 200 = true := by
  cases v <;> first | exact False.elim h | skip
  · decide +kernel
  · exact ⟨rfl, by show 0 ≤ 1; decide, by show 0 ≤ 200; decide, rfl⟩
  · rename_i i
    have hl := int30 h
    refine ⟨decide_eq_true (Nat.lt_trans hl (by decide)), by show 0 ≤ 1; decide, ?_, ?_⟩
    · show (if i == 0 then 0 else i.natAbs.log2 + 1) ≤ 200
      split <;> omega
    · refine decide_eq_true ?_
      have h1 := int_text_length_le (k := 100) (by decide) hl
      show (Str.ofString (toString i)).length ≤ 200
      rw [PySem.ofString_length]
      omega
  · rename_i x
    have e : x = "0" := h
    subst e
    decide +kernel
  · show (PyData.list [.int 1]).showable = true ∧ (PyData.list [.int 1]).depth ≤ 1 ∧ (PyData.list [.int 1]).weight ≤ 200 ∧ (PyData.list [.int 1]).leavesShort 200 = true
    decide +kernel
def spDs (kvs : List (Key × V)) : List (PyData × PyData) := kvs.map fun e => (keyD e.1, spD e.2)
theorem spSd {K : PySem.W.Frag} {H : Hp} : ∀ {kvs : List (Key × V)}, (∀ e ∈ kvs, keyOk e.1 ∧ SpV H e.2) → SdKV K H kvs (spDs kvs)
  | [], _ => .nil
  | (k, v) :: kvs, h => .cons ((h (k, v) (List.mem_cons_self ..)).2.sd) (spSd fun e he => h e (List.mem_cons_of_mem _ he))
theorem keyOk.ok {k : Key} (h : keyOk k) : (keyD k).showable = true ∧ (keyD k).depth ≤ 1 ∧ (keyD k).weight ≤ 20 ∧ (keyD k).leavesShort 200 = true := by
  cases k with
  | inl i => exact False.elim h
  | inr z =>
    refine ⟨rfl, by show 0 ≤ 1; decide, h.1, ?_⟩
    show (z.cps.toList.all fun c => decide (c < 16 ^ 8)) = true
    rw [List.all_eq_true]
    intro c hc
    exact decide_eq_true (h.2 c hc)
theorem spKv {H : Hp} : ∀ {kvs : List (Key × V)}, (∀ e ∈ kvs, keyOk e.1 ∧ SpV H e.2) → PyData.showableKv (spDs kvs) = true ∧ PyData.depthKv (spDs kvs) ≤ 1 ∧ PyData.weightKv (spDs kvs) ≤ 222 * kvs.length ∧ PyData.leavesShortKv 200 (spDs kvs) = true
  | [], _ => ⟨rfl, Nat.zero_le _, Nat.zero_le _, rfl⟩
  | (k, v) :: kvs, h => by
    obtain ⟨i1, i2, i3, i4⟩ := spKv (kvs := kvs) fun e he => h e (List.mem_cons_of_mem _ he)
    obtain ⟨hk, hv⟩ : keyOk k ∧ SpV H v := h (k, v) (List.mem_cons_self ..)
    obtain ⟨k1, k2, k3, k4⟩ := hk.ok
    obtain ⟨v1, v2, v3, v4⟩ := hv.ok
    refine ⟨?_, ?_, ?_, ?_⟩
    · show ((keyD k).showable && (spD v).showable && PyData.showableKv (spDs kvs)) = true
      rw [k1, v1, i1]
      rfl
    · show max (max (keyD k).depth (spD v).depth) (PyData.depthKv (spDs kvs)) ≤ 1
      omega
    · show (keyD k).weight + (spD v).weight + 2 + PyData.weightKv (spDs kvs) ≤ 222 * (kvs.length + 1)
      omega
    · show ((keyD k).leavesShort 200 && (spD v).leavesShort 200 && PyData.leavesShortKv 200 (spDs kvs)) = true
      rw [k4, v4, i4]
      rfl
theorem SpoO.thr {K : PySem.W.Frag} {H nm n b} (h : SpoO H nm n b) : ThR K H (.ref b) := by
  obtain ⟨kvs, h1, h2, h3, _⟩ := h
  obtain ⟨i1, i2, i3, i4⟩ := spKv h3
  refine ⟨.dict (spDs kvs), .dic h1 (spSd h3), i1, ?_, ?_⟩
  · show PyData.depthKv (spDs kvs) + 1 ≤ 60
    omega
  · have e := PyData.shown_le 200 (by decide) (.dict (spDs kvs)) i4
    have w : (PyData.dict (spDs kvs)).weight ≤ 222 * 61 := by
      show PyData.weightKv (spDs kvs) ≤ _
      omega
    have := Nat.mul_le_mul_left 202 w
    omega
/-! ### one place spoilt -/
theorem nameS_key {z : Str} (h : nameS z = true) : keyOk (kS z) := by
  unfold nameS at h
  simp only [Bool.and_eq_true, decide_eq_true_eq, List.all_eq_true] at h
  obtain ⟨⟨_, h1⟩, h2⟩ := h
  refine ⟨by omega, fun c hc => ?_⟩
  have := (h2 c hc).2
  omega
theorem embSp {H : Hp} {kv : List (Str × Int)} {nm : List Str} {n : Nat} (ck : CutOk nm kv n) (hn : n ≤ 6) (hg : ∀ z ∈ nm, nameS z = true) : ∀ e ∈ emb kS kv, keyOk e.1 ∧ SpV H e.2 := by
  intro e he
  obtain ⟨f, hf, rfl⟩ := List.mem_map.mp he
  refine ⟨nameS_key (hg _ (ck.pm.subset (List.mem_map.mpr ⟨f, hf, rfl⟩))), ?_⟩
  have := ck.rg f hf
  show -(10 : Int) ^ 30 < f.2 ∧ f.2 < 10 ^ 30
  omega
theorem dropK_sub {κ : Type} [DecidableEq κ] {kvs : List (κ × V)} {k : κ} : ∀ e ∈ dropK kvs k, e ∈ kvs := fun e he => (List.mem_filter.mp he).1
theorem dictK {K : PySem.W.Frag} {a : Addr} {kvs : List (Key × V)} {H : Hp} {Q : VK} (h : H a = some (.dK kvs)) (q : ∀ p, H p = none → Q (.ref p) (L2.upd H p (.dK kvs))) : rDictU K [.ref a] H Q := by
  unfold rDictU
  exact .inl ⟨a, kvs, rfl, .inl h, q⟩
theorem PrO.butf {H H' : Hp} {p q : Addr} (h : PrO H p) (b : But q H H') (n : p ≠ q) : PrO H' p := h.but b n
theorem noneKey {kv : List (Str × Int)} {z : Str} (h : z ∉ kv.map Prod.fst) : valV (emb kS kv) (kS z) = none := by
  rw [emb_val kS_inj]
  cases hg : getA kv z with
  | none => rfl
  | some u =>
    obtain ⟨e, he, ee⟩ := getA_memK (by rw [hg]; rfl : (getA kv z).isSome = true)
    exact absurd (List.mem_map.mpr ⟨e, he, ee⟩) h
theorem valPut {kvs : List (Key × V)} {k j : Key} {y : V} (h : j ≠ k) : valV (putK kvs k y) j = valV kvs j := by
  rw [valV_put, if_neg h]
theorem putIn {kvs : List (Key × V)} {k : Key} {u v : V} (h : valV kvs k = some u) : (putK kvs k v).length = kvs.length ∧ ∀ e ∈ putK kvs k v, e ∈ kvs ∨ e = (k, v) := by
  have hm : (kvs.any fun p => decide (p.1 = k)) = true := by
    obtain ⟨e, he, ee⟩ := List.mem_map.mp (valV_in h)
    exact List.any_eq_true.mpr ⟨e, he, decide_eq_true ee⟩
  unfold putK
  rw [if_pos hm]
  refine ⟨List.length_map .., fun e he => ?_⟩
  obtain ⟨f, hf, rfl⟩ := List.mem_map.mp he
  split
  · rename_i c
    right
    rw [← c]
  · exact .inl hf
theorem pure_l_spoilt {K a b c d H Q E} (h : P_l_spoilt K a b c d H Q E) : t_l_spoilt K E { nx := fun _ H' => Q .non H', rt := Q } [some a, some b, some c, some d, none, none, none] H := by
  obtain ⟨p, ln, cd, nm, n, kv, rfl, hp, rfl, hln, hpos, hnl, hg, rfl, hcp, hcd, ck, rfl, n2, n6, k⟩ := h
  have kvn : (kv.map Prod.fst).Nodup := ck.pm.nodup_iff.mpr ck.nd
  have hkl := ck.len
  have hsp := embSp (H := H) ck n6 hg
  ((try (conv => whnf)); repeat (first | (refine cndT rfl ?_; (try (conv => whnf))) | (refine cndF rfl ?_; (try (conv => whnf)))))
  refine dictK hcd fun f nf => ?_
  generalize hG : L2.upd _ f _ = H1
  have s1 := sameOf nf hG
  have e1 := atOf hG
  clear hG
  have nfp : f ≠ p := (ne_n hp.ne nf).symm
  have h1 := hp.same s1
  ((try (conv => whnf)); repeat (first | (refine cndT rfl ?_; (try (conv => whnf))) | (refine cndF rfl ?_; (try (conv => whnf)))))
  left
  refine ⟨_, SqL.of (s1 _ _ hln), ?_⟩
  rw [List.length_map]
  ((try (conv => whnf)); repeat (first | (refine cndT rfl ?_; (try (conv => whnf))) | (refine cndF rfl ?_; (try (conv => whnf)))))
  refine ⟨p, (nm.length : Int), rfl, h1, rfl, by omega, by omega, fun d2 H2 d0 d1 b2 h2 => ?_⟩
  have e2 := b2.at e1 nfp
  have k2 : Kx [p] H H2 := (Kx.same s1).trans (.but b2 (by simp))
  have hln2 : H2 ln = some (.lst (nm.map V.str)) := k2.pr hp hln prB_lst
  ((try (conv => whnf)); repeat (first | (refine cndT rfl ?_; (try (conv => whnf))) | (refine cndF rfl ?_; (try (conv => whnf)))))
  refine ixIn (SqL.of hln2) d0 (by rw [List.length_map]; exact d1) fun v hv => ?_
  obtain ⟨z, hz, rfl⟩ := List.mem_map.mp hv
  have hgz := hg z hz
  obtain ⟨wz, hget, wz0, wz1⟩ := ck.get hz
  have vz : valV (emb kS kv) (kS z) = some (.int wz) := by
    rw [emb_val kS_inj, hget]
    rfl
  ((try (conv => whnf)); repeat (first | (refine cndT rfl ?_; (try (conv => whnf))) | (refine cndF rfl ?_; (try (conv => whnf)))))
  refine ⟨p, 4, rfl, h2, rfl, by decide, by decide, fun w H3 w0 w4 b3 h3 => ?_⟩
  have e3 := b3.at e2 nfp
  have k3 : Kx [p] H H3 := k2.trans (.but b3 (by simp))
  have hlen : (emb kS kv).length = nm.length := by rw [emb_len, hkl]
  have other : ∀ y ∈ nm, ∃ c : Int, valV (emb kS kv) (kS y) = some (.int c) ∧ 0 ≤ c ∧ c < n := fun y hy => by
    obtain ⟨c, hc, c0, c1⟩ := ck.get hy
    exact ⟨c, by rw [emb_val kS_inj, hc]; rfl, c0, c1⟩
  have fin : ∀ {H5 : Hp} {S}, Kx [p] H H5 → (∀ b ∈ S, b = f) → ∀ H6, Kx S H5 H6 → Kx [p] H H6 := fun kk hS H6 kx b o hb e => by
    refine kx b o (fun z => ?_) (kk b o hb e)
    rw [hS b z, nf] at e
    cases e
  ((try (conv => whnf)); repeat (first | (refine cndT rfl ?_; (try (conv => whnf))) | (refine cndF rfl ?_; (try (conv => whnf)))))
  refine cutN ?_
  ((try (conv => whnf)); repeat (first | (refine cndT rfl ?_; (try (conv => whnf))) | (refine cndF rfl ?_; (try (conv => whnf)))))
  refine cndB (fun c1 => ?_) (fun c1 => ?_)
  · ((try (conv => whnf)); repeat (first | (refine cndT rfl ?_; (try (conv => whnf))) | (refine cndF rfl ?_; (try (conv => whnf)))))
    right
    ((try (conv => whnf)); repeat (first | (refine cndT rfl ?_; (try (conv => whnf))) | (refine cndF rfl ?_; (try (conv => whnf)))))
    refine ⟨.inr (.inr (.inl ⟨rfl, .inl ⟨_, e3⟩⟩)), ?_⟩
    ((try (conv => whnf)); repeat (first | (refine cndT rfl ?_; (try (conv => whnf))) | (refine cndF rfl ?_; (try (conv => whnf)))))
    refine ⟨f, .str z, .int wz, rfl, rfl, .inl ⟨_, kS z, e3, rfl, vz, ?_⟩⟩
    (generalize hG : _root_.L2.upd _ f _ = H4; have b4 := butOf hG; have e4 := atOf hG; clear hG; ((try (conv => whnf)); repeat (first | (refine cndT rfl ?_; (try (conv => whnf))) | (refine cndF rfl ?_; (try (conv => whnf))))))
    refine k f H4 nf (fin k3 (S := [f]) (by simp) _ (.but b4 (by simp))) (h3.but b4 nfp.symm) ⟨_, e4, ?_, fun e he => ?_, .inl ?_⟩
    · have := List.length_filter_le (fun kv : Key × V => decide (kv.1 ≠ kS z)) (emb kS kv)
      show (List.filter _ _).length ≤ 61
      omega
    · have := hsp e (dropK_sub e he)
      exact ⟨this.1, this.2.mono fun l q => (fin k3 (S := [f]) (by simp) _ (.but b4 (by simp))).pr hp q prB_lst⟩
    · rw [emb_drop kS_inj, emb_len, ← hkl]
      have hm := ck.pm.mem_iff.mpr hz
      obtain ⟨e, he, ez⟩ := List.mem_map.mp hm
      have : (dropA kv z).length < kv.length := by
        unfold dropA
        exact List.length_filter_lt_length_iff_exists.mpr ⟨e, he, by simp [ez]⟩
      omega
  ((try (conv => whnf)); repeat (first | (refine cndT rfl ?_; (try (conv => whnf))) | (refine cndF rfl ?_; (try (conv => whnf)))))
  refine cndB (fun c2 => ?_) (fun c2 => ?_)
  · ((try (conv => whnf)); repeat (first | (refine cndT rfl ?_; (try (conv => whnf))) | (refine cndF rfl ?_; (try (conv => whnf)))))
    have hno : valV (emb kS kv) (kS "none of it") = none := noneKey fun hm => by
      have := hg _ (ck.pm.mem_iff.mp hm)
      revert this
      decide +kernel
    refine setD rfl (DPut.k (k := kS "none of it") e3 (by rw [hlen, sizeLine_eq]; omega)) ?_
    (generalize hG : _root_.L2.upd _ f _ = H4; have b4 := butOf hG; have e4 := atOf hG; clear hG; ((try (conv => whnf)); repeat (first | (refine cndT rfl ?_; (try (conv => whnf))) | (refine cndF rfl ?_; (try (conv => whnf))))))
    rw [putK_new _ hno] at e4
    refine k f H4 nf (fin k3 (S := [f]) (by simp) _ (.but b4 (by simp))) (h3.but b4 nfp.symm) ⟨_, e4, ?_, fun e he => ?_, .inl ?_⟩
    · rw [List.length_append, hlen, List.length_singleton]
      omega
    · rcases List.mem_append.mp he with he | he
      · have := hsp e he
        exact ⟨this.1, this.2.mono fun l q => (fin k3 (S := [f]) (by simp) _ (.but b4 (by simp))).pr hp q prB_lst⟩
      · rw [List.mem_singleton.mp he]
        exact ⟨⟨by decide +kernel, by decide +kernel⟩, by show -(10 : Int) ^ 30 < 0 ∧ 0 < (10 : Int) ^ 30; decide⟩
    · rw [List.length_append, hlen, List.length_singleton]
      omega
  ((try (conv => whnf)); repeat (first | (refine cndT rfl ?_; (try (conv => whnf))) | (refine cndF rfl ?_; (try (conv => whnf)))))
  refine cndB (fun c3 => ?_) (fun c3 => ?_)
  · ((try (conv => whnf)); repeat (first | (refine cndT rfl ?_; (try (conv => whnf))) | (refine cndF rfl ?_; (try (conv => whnf)))))
    right
    ((try (conv => whnf)); repeat (first | (refine cndT rfl ?_; (try (conv => whnf))) | (refine cndF rfl ?_; (try (conv => whnf)))))
    refine ⟨.inr (.inr (.inl ⟨rfl, .inl ⟨_, e3⟩⟩)), ?_⟩
    ((try (conv => whnf)); repeat (first | (refine cndT rfl ?_; (try (conv => whnf))) | (refine cndF rfl ?_; (try (conv => whnf)))))
    refine ⟨f, .str z, .int wz, rfl, rfl, .inl ⟨_, kS z, e3, rfl, vz, ?_⟩⟩
    (generalize hG : _root_.L2.upd _ f _ = H4; have b4 := butOf hG; have e4 := atOf hG; clear hG; ((try (conv => whnf)); repeat (first | (refine cndT rfl ?_; (try (conv => whnf))) | (refine cndF rfl ?_; (try (conv => whnf))))))
    have hl4 : (dropK (emb kS kv) (kS z)).length ≤ nm.length := by
      have := List.length_filter_le (fun kv : Key × V => decide (kv.1 ≠ kS z)) (emb kS kv)
      show (List.filter _ _).length ≤ _
      omega
    refine setD rfl (DPut.k (k := kS "A") e4 (by rw [sizeLine_eq]; omega)) ?_
    (generalize hG : _root_.L2.upd _ f _ = H5; have b5 := butOf hG; have e5 := atOf hG; clear hG; ((try (conv => whnf)); repeat (first | (refine cndT rfl ?_; (try (conv => whnf))) | (refine cndF rfl ?_; (try (conv => whnf))))))
    have hzA : kS z ≠ kS "A" := fun q => by
      have q' : z = "A" := kS_inj _ _ q
      rw [q'] at hgz
      revert hgz
      decide +kernel
    have kx5 := fin k3 (S := [f]) (by simp) _ ((Kx.but b4 (by simp)).trans (.but b5 (by simp)))
    refine k f H5 nf kx5 ((h3.but b4 nfp.symm).but b5 nfp.symm) ⟨_, e5, ?_, fun e he => ?_, .inr (.inl ⟨z, hz, ?_⟩)⟩
    · have := length_putK (dropK (emb kS kv) (kS z)) (kS "A") (.int 0)
      omega
    · have hA : valV (dropK (emb kS kv) (kS z)) (kS "A") = none := by
        cases hq : valV (dropK (emb kS kv) (kS z)) (kS "A") with
        | none => rfl
        | some u =>
          obtain ⟨e, he, ee⟩ := List.mem_map.mp (valV_in hq)
          obtain ⟨g, hg', rfl⟩ := List.mem_map.mp (dropK_sub e he)
          have q' : g.1 = "A" := kS_inj _ _ ee
          have := hg _ (ck.pm.subset (List.mem_map.mpr ⟨g, hg', rfl⟩))
          rw [q'] at this
          exact absurd this (by decide +kernel)
      rw [putK_new _ hA] at he
      rcases List.mem_append.mp he with he | he
      · have := hsp e (dropK_sub e he)
        exact ⟨this.1, this.2.mono fun l q => kx5.pr hp q prB_lst⟩
      · rw [List.mem_singleton.mp he]
        exact ⟨⟨by decide +kernel, by decide +kernel⟩, by show -(10 : Int) ^ 30 < 0 ∧ 0 < (10 : Int) ^ 30; decide⟩
    · rw [valPut hzA]
      cases hq : valV (dropK (emb kS kv) (kS z)) (kS z) with
      | none => rfl
      | some u =>
        obtain ⟨e, he, ee⟩ := List.mem_map.mp (valV_in hq)
        have := (List.mem_filter.mp he).2
        rw [ee] at this
        simp at this
  · ((try (conv => whnf)); repeat (first | (refine cndT rfl ?_; (try (conv => whnf))) | (refine cndF rfl ?_; (try (conv => whnf)))))
    refine ⟨by show 1 ≤ sizeLine; decide, ?_⟩
    (intro l1 nl1; generalize hG : _root_.L2.upd _ l1 _ = H4; have s4 := sameOf nl1 hG; have e4 := atOf hG; clear hG; ((try (conv => whnf)); repeat (first | (refine cndT rfl ?_; (try (conv => whnf))) | (refine cndF rfl ?_; (try (conv => whnf))))))
    refine ⟨⟨by decide, by decide, by decide⟩, ?_⟩
    ((try (conv => whnf)); repeat (first | (refine cndT rfl ?_; (try (conv => whnf))) | (refine cndF rfl ?_; (try (conv => whnf)))))
    refine ⟨by show 7 ≤ sizeLine; decide, ?_⟩
    (intro l2 nl2; generalize hG : _root_.L2.upd _ l2 _ = H5; have s5 := sameOf nl2 hG; have e5 := atOf hG; clear hG; ((try (conv => whnf)); repeat (first | (refine cndT rfl ?_; (try (conv => whnf))) | (refine cndF rfl ?_; (try (conv => whnf))))))
    have h5 := (h3.same s4).same s5
    refine ⟨p, 7, rfl, h5, rfl, by decide, by decide, fun w7 H6 a0 a1 b6 h6 => ?_⟩
    have nl2p : l2 ≠ p := (ne_n (h3.same s4).ne nl2).symm
    have nl1p : l1 ≠ p := (ne_n h3.ne nl1).symm
    have e56 := b6.at e5 nl2p
    have e46 := b6.at (s5 _ _ e4) nl1p
    have e36 := b6.at (s5 _ _ (s4 _ _ e3)) nfp
    have k6 : Kx [p] H H6 := ((k3.trans (.same s4)).trans (.same s5)).trans (.but b6 (by simp))
    refine ixIn (SqL.of e56) a0 (by show w7 < 7; exact a1) fun u hu => ?_
    have hu' : SpV H6 u ∧ wholeV u 0 (n - 1) = false := by
      simp only [List.mem_cons, List.not_mem_nil, or_false] at hu
      rcases hu with rfl | rfl | rfl | rfl | rfl | rfl | rfl
      · exact ⟨by show -(10 : Int) ^ 30 < -1 ∧ -1 < (10 : Int) ^ 30; decide, by simp [wholeV]⟩
      · refine ⟨?_, ?_⟩
        · show -(10 : Int) ^ 30 < (n : Int) ∧ (n : Int) < (10 : Int) ^ 30
          omega
        · simp only [wholeV, Bool.and_eq_false_iff, decide_eq_false_iff_not]
          omega
      · exact ⟨rfl, rfl⟩
      · exact ⟨trivial, rfl⟩
      · exact ⟨rfl, rfl⟩
      · exact ⟨e46, rfl⟩
      · refine ⟨by show -(10 : Int) ^ 30 < _ ∧ _ < (10 : Int) ^ 30; decide +kernel, ?_⟩
        simp only [wholeV, Bool.and_eq_false_iff, decide_eq_false_iff_not]
        right
        intro hh
        have : (10 : Int) ^ (30 : Nat) - 1 ≤ n - 1 := hh
        omega
    have hput := putIn (v := u) vz
    ((try (conv => whnf)); repeat (first | (refine cndT rfl ?_; (try (conv => whnf))) | (refine cndF rfl ?_; (try (conv => whnf)))))
    refine setD rfl (DPut.k (k := kS z) e36 (by rw [hlen, sizeLine_eq]; omega)) ?_
    (generalize hG : _root_.L2.upd _ f _ = H7; have b7 := butOf hG; have e7 := atOf hG; clear hG; ((try (conv => whnf)); repeat (first | (refine cndT rfl ?_; (try (conv => whnf))) | (refine cndF rfl ?_; (try (conv => whnf))))))
    have kx7 := fin k6 (S := [f]) (by simp) _ (.but b7 (by simp))
    have hu7 : SpV H7 u := hu'.1.mono fun l q => b7.at q (fun c => by rw [c, e36] at q; cases q)
    refine k f H7 nf kx7 (h6.but b7 nfp.symm) ⟨_, e7, ?_, fun e he => ?_, .inr (.inr ⟨?_, z, hz, u, ?_, hu'.2, fun y hy ny => ?_⟩)⟩
    · rw [hput.1, hlen]
      omega
    · rcases hput.2 e he with he | rfl
      · have := hsp e he
        exact ⟨this.1, this.2.mono fun l q => kx7.pr hp q prB_lst⟩
      · exact ⟨nameS_key hgz, hu7⟩
    · rw [hput.1, hlen]
    · rw [valV_put, if_pos rfl]
    · obtain ⟨c, hc, c01⟩ := other y hy
      exact ⟨c, by rw [valPut (fun q => ny (kS_inj _ _ q))]; exact hc, c01⟩

end Wk27
namespace Wk27
open PySem L2 PySem.Spec PyProof.Rows Rf
theorem paired_of {α β : Type} {R : α → β → Prop} : ∀ {xs : List α} {ys : List β}, xs.length = ys.length → (∀ (i : Nat) (x : α) (y : β), xs[i]? = some x → ys[i]? = some y → R x y) → Paired R xs ys
  | [], [], _, _ => .nil
  | [], _ :: _, h, _ => by cases h
  | _ :: _, [], h, _ => by cases h
  | x :: xs, y :: ys, h, k => .cons (k 0 x y rfl rfl) (paired_of (Nat.succ.inj h) fun i a b h1 h2 => k (i + 1) a b h1 h2)
theorem sameD {kv : List (Str × Int)} (nd : (kv.map Prod.fst).Nodup) : ∀ p ∈ emb kS kv, valV (emb kS kv) p.1 = some p.2 ∧ flatB p.2 = true := by
  intro p hp
  obtain ⟨e, he, rfl⟩ := List.mem_map.mp hp
  obtain ⟨i, hi⟩ := List.getElem?_of_mem he
  refine ⟨?_, rfl⟩
  show valV (emb kS kv) (kS e.1) = some (.int e.2)
  rw [emb_val kS_inj, getA_valB nd hi]
  rfl
theorem catLs {K : PySem.W.Frag} {l b : Addr} {xs zs : List V} {H : Hp} {Q : VK} (h1 : H l = some (.lst xs)) (h2 : H b = some (.lst zs)) (hl : xs.length + zs.length ≤ sizeLine) (q : ∀ p, H p = none → Q (.ref p) (L2.upd H p (.lst (xs ++ zs)))) : rAddU K (.ref l) (.ref b) H Q := by
  unfold rAddU
  exact .inl ⟨l, b, xs, zs, rfl, rfl, h1, h2, hl, q⟩
theorem NamO.same {H H' l rs nm f n} (h : NamO H l rs nm f n) (s : Same H H') : NamO H' l rs nm f n := ⟨s _ _ h.l, h.ln, fun j r e => s _ _ (h.row j r e)⟩
theorem pure_l_all {K a b c d H Q E} (h : P_l_all K a b c d H Q E) : t_l_all K E { nx := fun _ H' => Q .non H', rt := Q } [some a, some b, some c, some d, none] H := by
  obtain ⟨x, wp, wq, cd, r, W, n, lo, hi, kv, ask, n6, ru, rfl, rfl, rfl, rfl, k⟩ := h
  have ruS : ∀ {H'}, Same H H' → RuO K H' r n lo hi := fun s => ⟨ru.k, (let ⟨dx, e⟩ := ru.o; ⟨dx, s _ _ e⟩)⟩
  obtain ⟨dx, ho⟩ := ask.web.o
  ((try (conv => whnf)); repeat (first | (refine cndT rfl ?_; (try (conv => whnf))) | (refine cndF rfl ?_; (try (conv => whnf)))))
  refine .inr ⟨x, wp, wq, cd, W, n, kv, ask, rfl, rfl, rfl, fun a1 t1 H1 na1 s1 e1 p1 => ?_⟩
  ((try (conv => whnf)); repeat (first | (refine cndT rfl ?_; (try (conv => whnf))) | (refine cndF rfl ?_; (try (conv => whnf)))))
  refine .inr ⟨x, wp, wq, cd, W, n, kv, ask.same s1, n6, rfl, rfl, rfl, fun a2 rs H2 na2 nrs ndrs nl2 s2 no2 => ?_⟩
  have s02 := s1.trans s2
  ((try (conv => whnf)); repeat (first | (refine cndT rfl ?_; (try (conv => whnf))) | (refine cndF rfl ?_; (try (conv => whnf)))))
  refine .inr ⟨x, wp, wq, cd, W, n, kv, ask.same s02, rfl, rfl, rfl, fun a3 L H3 na3 s3 e3 btw => ?_⟩
  have s03 := s02.trans s3
  ((try (conv => whnf)); repeat (first | (refine cndT rfl ?_; (try (conv => whnf))) | (refine cndF rfl ?_; (try (conv => whnf)))))
  refine ⟨by show 3 ≤ sizeLine; decide, ?_⟩
  (intro l1 nl1; generalize hG : _root_.L2.upd _ l1 _ = H4; have s4 := sameOf nl1 hG; have e4 := atOf hG; clear hG; ((try (conv => whnf)); repeat (first | (refine cndT rfl ?_; (try (conv => whnf))) | (refine cndF rfl ?_; (try (conv => whnf))))))
  have s04 := s03.trans s4
  refine .inr ⟨x, wp, wq, cd, r, W, n, lo, hi, kv, ask.same s04, n6, ruS s04, rfl, rfl, rfl, fun H5 s5 => ?_⟩
  have s05 := s04.trans s5
  ((try (conv => whnf)); repeat (first | (refine cndT rfl ?_; (try (conv => whnf))) | (refine cndF rfl ?_; (try (conv => whnf)))))
  refine .inr ⟨x, wp, wq, cd, W, n, kv, ask.same s05, rfl, rfl, rfl, fun a5 H6 na5 s6 e6 => ?_⟩
  have s06 := s05.trans s6
  ((try (conv => whnf)); repeat (first | (refine cndT rfl ?_; (try (conv => whnf))) | (refine cndF rfl ?_; (try (conv => whnf)))))
  refine ⟨x, dx, _, rfl, s06 _ _ ho, webF_n (by decide +kernel) (by decide +kernel), ?_⟩
  ((try (conv => whnf)); repeat (first | (refine cndT rfl ?_; (try (conv => whnf))) | (refine cndF rfl ?_; (try (conv => whnf)))))
  refine ⟨x, wp, wq, W, rfl, ask.web.same s06, ask.nd, ask.hl, ask.kl, ask.ends, fun a6 t6 H7 na6 s7 e7 p7 => ?_⟩
  ((try (conv => whnf)); repeat (first | (refine cndT rfl ?_; (try (conv => whnf))) | (refine cndF rfl ?_; (try (conv => whnf)))))
  refine ⟨by show 3 ≤ sizeLine; decide, ?_⟩
  (intro l2 nl2; generalize hG : _root_.L2.upd _ l2 _ = H8; have s8 := sameOf nl2 hG; have e8 := atOf hG; clear hG; ((try (conv => whnf)); repeat (first | (refine cndT rfl ?_; (try (conv => whnf))) | (refine cndF rfl ?_; (try (conv => whnf))))))
  have s48 := ((s5.trans s6).trans s7).trans s8
  refine catLs (s48 _ _ e4) e8 (by show 3 + 3 ≤ sizeLine; decide) fun l nl => ?_
  generalize hG : L2.upd _ l _ = H9
  have s9 := sameOf nl hG
  have e9 := atOf hG
  clear hG
  have s49 := s48.trans s9
  have s19 := ((s2.trans s3).trans s4).trans s49
  refine k l a5 H9 (s05.free na5) (s04.trans s49) ⟨a1, a2, a3, a6, t1, t6, rs, L, e9, s19 _ _ e1, Paired.mapP p1 fun t e ht => s19 _ _ ht, no2.same ((s3.trans s4).trans s49), s49 _ _ (s4 _ _ e3), btw, s9 _ _ (s8 _ _ (s7 _ _ e6)), s9 _ _ (s8 _ _ e7), Paired.mapP p7 fun t e ht => s9 _ _ (s8 _ _ ht)⟩
theorem AllO.same {H H' l W n lo hi kv a5} (h : AllO H l W n lo hi kv a5) (s : Same H H') : AllO H' l W n lo hi kv a5 := by
  obtain ⟨a1, a2, a3, a6, t1, t6, rs, L, h0, h1, p1, h2, h3, b, h5, h6, p6⟩ := h
  exact ⟨a1, a2, a3, a6, t1, t6, rs, L, s _ _ h0, s _ _ h1, Paired.mapP p1 fun t e ht => s _ _ ht, h2.same s, s _ _ h3, b, s _ _ h5, s _ _ h6, Paired.mapP p6 fun t e ht => s _ _ ht⟩
theorem AllO.kx {H H' l W n lo hi kv a5 p} (h : AllO H l W n lo hi kv a5) (hp : PrO H p) (ne : a5 ≠ p) (k : Kx [p] H H') : AllO H' l W n lo hi kv a5 := by
  obtain ⟨a1, a2, a3, a6, t1, t6, rs, L, h0, h1, p1, h2, h3, b, h5, h6, p6⟩ := h
  exact ⟨a1, a2, a3, a6, t1, t6, rs, L, k.pr hp h0 prB_lst, k.pr hp h1 prB_lst, Paired.mapP p1 fun t e ht => k.pr hp ht prB_tup, ⟨k.pr hp h2.l prB_lst, h2.ln, fun j r e => k.pr hp (h2.row j r e) prB_lst⟩, k.pr hp h3 prB_dT, b, k _ _ (by simp; exact ne) h5, k.pr hp h6 prB_lst, Paired.mapP p6 fun t e ht => k.pr hp ht prB_tup⟩
/-- data of little depth is equal to itself, and may be laid -/
theorem tieD {K : PySem.W.Frag} {H : Hp} {ts : List Addr} {T : List ((Str × Str) × Int)} (p : Paired (isTie H) ts T) : DpAll K H (ts.map V.ref) (T.map dT3) := dpAllP p fun t e ht => .tup (SqT.of ht) (.cons (.str _) (.cons (.str _) (.cons (.int _) .nil)))
theorem layAll32 {ds : List PyData} (h : ∀ d ∈ ds, d.canLay0 = true ∧ d.depth ≤ 10) : (PyData.list ds).canLay0 = true ∧ (PyData.list ds).depth ≤ 32 ∧ PyData.eqv (.list ds) (.list ds) = true := by
  obtain ⟨h1, _⟩ := layAll fun d hd => ⟨(h d hd).1, Nat.le_trans (h d hd).2 (by decide)⟩
  refine ⟨h1, ?_, eqvRA ds h1⟩
  have : ∀ {ds : List PyData}, (∀ d ∈ ds, d.depth ≤ 10) → PyData.depthAll ds ≤ 10 := fun {ds} => by
    induction ds with
    | nil => exact fun _ => Nat.zero_le _
    | cons d ds ih => exact fun h => Nat.max_le.mpr ⟨h d (List.mem_cons_self ..), ih fun e he => h e (List.mem_cons_of_mem _ he)⟩
  have := this fun d hd => (h d hd).2
  show PyData.depthAll ds + 1 ≤ 32
  omega
theorem nam_dp {K : PySem.W.Frag} {H : Hp} {l : Addr} {rs : List Addr} {nm : List Str} {f : Str → Int} {n : Nat} (h : NamO H l rs nm f n) : DpAll K H (rs.map V.ref) ((List.range n).map fun j => .list ((nRow nm f j).map PyData.str)) := by
  have hp : Paired (fun (r : Addr) (j : Nat) => H r = some (.lst ((nRow nm f j).map V.str))) rs (List.range n) := paired_of (by rw [h.ln, List.length_range]) fun i r j hr hj => by
    have hi := (List.getElem?_eq_some_iff.mp hj).1
    rw [List.length_range] at hi
    rw [List.getElem?_range hi] at hj
    cases hj
    exact h.row i r hr
  exact dpAllP hp fun r j hr => .lst (SqL.of hr) (dpAll fun z _ => .str z)
/-- all told twice is the same -/
theorem AllO.eq {K : PySem.W.Frag} {H : Hp} {l l' : Addr} {W : WebS} {n : Nat} {lo hi : Int} {kv : List (Str × Int)} {a5 a5' : Addr} (h : AllO H l W n lo hi kv a5) (h' : AllO H l' W n lo hi kv a5') (hg : ∀ e ∈ W.kn.map (tieT W), nameS e.1.1 = true ∧ nameS e.1.2 = true) (hn : ∀ z ∈ W.hv.map Prod.fst, nameS z = true) (nd : (W.hv.map Prod.fst).Nodup) : EqLD K (.ref l) (.ref l') H := by
  obtain ⟨a1, a2, a3, a6, t1, t6, rs, L, h0, h1, p1, h2, h3, b, h5, h6, p6⟩ := h
  obtain ⟨b1, b2, b3, b6, u1, u6, qs, M, g0, g1, q1, g2, g3, c, g5, g6, q6⟩ := h'
  have eL := btw_uniq b c
  subst eL
  refine ⟨l, l', _, _, rfl, rfl, SqL.of h0, SqL.of g0, ?_⟩
  have tieOk : ∀ {T : List ((Str × Str) × Int)}, (∀ e ∈ T, nameS e.1.1 = true ∧ nameS e.1.2 = true) → ∀ d ∈ T.map dT3, d.canLay0 = true ∧ d.depth ≤ 10 := fun hT d hd => by
    obtain ⟨e, he, rfl⟩ := List.mem_map.mp hd
    exact ⟨(dT3_ok (nameS_strOk (hT e he).1) (nameS_strOk (hT e he).2)).1, by show 1 ≤ 10; decide⟩
  refine .cons (.inl (.inl ⟨_, .lst (SqL.of h1) (tieD p1), .lst (SqL.of g1) (tieD q1), layAll32 (tieOk fun e he => hg e (List.mem_filter.mp he).1)⟩)) (.cons (.inl (.inl ⟨.list ((List.range n).map fun j => .list ((nRow (W.hv.map Prod.fst) (cF kv) j).map PyData.str)), .lst (SqL.of h2.l) ?_, .lst (SqL.of g2.l) ?_, layAll32 fun d hd => ?_⟩)) (.cons (.inr ⟨a3, b3, _, _, rfl, rfl, h3, g3, rfl, fun p hp => ⟨hp, ?_⟩⟩) (.cons (.inl (.inr (.inl ⟨rfl, ?_⟩))) (.cons (.inl (.inr (.inr (.inr (.inr ⟨a5, a5', _, _, rfl, rfl, h5, g5, rfl, fun p hp => ⟨p.2, ?_, .inl ⟨rfl, ?_⟩⟩⟩))))) (.cons (.inl (.inl ⟨_, .lst (SqL.of h6) (tieD p6), .lst (SqL.of g6) (tieD q6), layAll32 (tieOk hg)⟩)) .nil)))))
  · exact nam_dp h2
  · exact nam_dp g2
  · obtain ⟨j, hj, rfl⟩ := List.mem_map.mp hd
    obtain ⟨i1, i2⟩ := layAll (ds := (nRow (W.hv.map Prod.fst) (cF kv) j).map PyData.str) fun d hd => by
      obtain ⟨z, hz, rfl⟩ := List.mem_map.mp hd
      exact ⟨nameS_strOk (hn z (List.mem_filter.mp hz).1), by show 0 ≤ 60; decide⟩
    refine ⟨i1, ?_⟩
    have : ∀ {l : List Str}, PyData.depthAll (l.map PyData.str) = 0 := fun {l} => by
      induction l with
      | nil => rfl
      | cons z l ih =>
        show max 0 (PyData.depthAll (l.map PyData.str)) = 0
        rw [ih]
        rfl
    show PyData.depthAll _ + 1 ≤ 10
    rw [this]
    decide
  · obtain ⟨e, he, rfl⟩ := List.mem_map.mp hp
    rfl
  · unfold beyI
    split <;> rfl
  · exact (sameD (by rw [numW_keys]; exact nd) p hp).1
  · exact (sameD (by rw [numW_keys]; exact nd) p hp).2

end Wk27
namespace Wk27
open PySem L2 PySem.Spec PyProof.Rows Rf
theorem thr_list {K : PySem.W.Frag} {H : Hp} {l : Addr} {xs : List V} {ds : List PyData} (h : H l = some (.lst xs)) (hd : DpAll K H xs ds) (hl : ds.length ≤ 60) (ho : ∀ d ∈ ds, d.showable = true ∧ d.depth = 0 ∧ d.weight ≤ 200 ∧ d.leavesShort 200 = true) : ThR K H (.ref l) := by
  have key : ∀ {ds : List PyData}, (∀ d ∈ ds, d.showable = true ∧ d.depth = 0 ∧ d.weight ≤ 200 ∧ d.leavesShort 200 = true) → PyData.showableAll ds = true ∧ PyData.depthAll ds = 0 ∧ PyData.weightAll ds ≤ 201 * ds.length ∧ PyData.leavesShortAll 200 ds = true := fun {ds} => by
    induction ds with
    | nil => exact fun _ => ⟨rfl, rfl, Nat.zero_le _, rfl⟩
    | cons d ds ih =>
      intro h
      obtain ⟨i1, i2, i3, i4⟩ := ih fun e he => h e (List.mem_cons_of_mem _ he)
      obtain ⟨h1, h2, h3, h4⟩ := h d (List.mem_cons_self ..)
      refine ⟨?_, ?_, ?_, ?_⟩
      · show (d.showable && PyData.showableAll ds) = true
        rw [h1, i1]
        rfl
      · show max d.depth (PyData.depthAll ds) = 0
        omega
      · show d.weight + 1 + PyData.weightAll ds ≤ 201 * (ds.length + 1)
        omega
      · show (d.leavesShort 200 && PyData.leavesShortAll 200 ds) = true
        rw [h4, i4]
        rfl
  obtain ⟨i1, i2, i3, i4⟩ := key ho
  refine ⟨.list ds, .lst (SqL.of h) (dpAll_sd hd), i1, ?_, ?_⟩
  · show PyData.depthAll ds + 1 ≤ 60
    omega
  · have e := PyData.shown_le 200 (by decide) (.list ds) i4
    have w : (PyData.list ds).weight ≤ 201 * 60 := by
      show PyData.weightAll ds ≤ _
      omega
    have := Nat.mul_le_mul_left 202 w
    omega
theorem nameS_data {z : Str} (h : nameS z = true) : (PyData.str z).showable = true ∧ (PyData.str z).depth = 0 ∧ (PyData.str z).weight ≤ 200 ∧ (PyData.str z).leavesShort 200 = true := by
  have := (nameS_key h).ok
  refine ⟨rfl, rfl, ?_, this.2.2.2⟩
  have : (PyData.str z).weight ≤ 20 := this.2.2.1
  omega
theorem smallI_data {i : Int} (h : 0 ≤ i ∧ i < 1000) : (PyData.int i).showable = true ∧ (PyData.int i).depth = 0 ∧ (PyData.int i).weight ≤ 200 ∧ (PyData.int i).leavesShort 200 = true := by
  have hs : SpV (fun _ => none) (.int i) := by
    show -(10 : Int) ^ 30 < i ∧ i < 10 ^ 30
    omega
  obtain ⟨h1, _, h3, h4⟩ := hs.ok
  exact ⟨h1, rfl, h3, h4⟩
/-- one of the eleven things -/
def ElT (K : PySem.W.Frag) (H : Hp) (nm : List Str) (n : Int) (v : V) : Prop := BadT K H nm n v ∧ ThR K H v
theorem ElT.same {K H H' nm n v} (h : ElT K H nm n v) (s : Same H H') : ElT K H' nm n v := ⟨h.1.same s, h.2.same s⟩
theorem SpoO.el {K : PySem.W.Frag} {H nm n b} (h : SpoO H nm n b) : ElT K H nm n (.ref b) := ⟨h.bad, h.thr⟩
theorem pure_law {K a H Q E} (h : P_law K a H Q E) : t_law K E { nx := fun _ H' => Q .non H', rt := Q } [some a, none, none, none, none, none, none, none, none, none, none, none, none, none, none, none] H := by
  obtain ⟨ek, wk, rk, sp, ns, rfl, hS, hl, k⟩ := h
  ((try (conv => whnf)); repeat (first | (refine cndT rfl ?_; (try (conv => whnf))) | (refine cndF rfl ?_; (try (conv => whnf)))))
  left
  refine ⟨_, hS, ?_⟩
  rw [List.length_map]
  ((try (conv => whnf)); repeat (first | (refine cndT rfl ?_; (try (conv => whnf))) | (refine cndF rfl ?_; (try (conv => whnf)))))
  refine ⟨_, rfl, by split <;> (try split) <;> omega, by split <;> (try split) <;> omega, ?_⟩
  refine forR (fun i σ H' => Same H H' ∧ ∃ v1 v2 v3 v4 v5 v6 v7 v8 v9 va vb vc vd ve vf : Option V, σ = [some (.ref sp), v1, v2, v3, v4, v5, v6, v7, v8, v9, va, vb, vc, vd, ve, vf]) ⟨Same.refl _, _, _, _, _, _, _, _, _, _, _, _, _, _, _, _, rfl⟩ ?_ ?_
  · rintro i σ H1 hi ⟨s1, v1, v2, v3, v4, v5, v6, v7, v8, v9, va, vb, vc, vd, ve, vf, rfl⟩
    ((try (conv => whnf)); repeat (first | (refine cndT rfl ?_; (try (conv => whnf))) | (refine cndF rfl ?_; (try (conv => whnf)))))
    refine ⟨sp, ns, 0 + (i : Int), rfl, s1.seq hS, hl, rfl, by omega, fun c => ?_⟩
    ((try (conv => whnf)); repeat (first | (refine cndT rfl ?_; (try (conv => whnf))) | (refine cndF rfl ?_; (try (conv => whnf)))))
    refine ⟨c, rfl, fun p H2 np s2 hp => ?_⟩
    have npH : H p = none := s1.free np
    have s02 := s1.trans s2
    ((try (conv => whnf)); repeat (first | (refine cndT rfl ?_; (try (conv => whnf))) | (refine cndF rfl ?_; (try (conv => whnf)))))
    refine ⟨p, 8, rfl, hp, rfl, by decide, by decide, fun d1 H3 a0 a1 b3 h3 => ?_⟩
    have s03 := sameKx s02 npH (.but b3 (by simp))
    obtain ⟨n, hn⟩ : ∃ n : Nat, 1 + d1 = n := ⟨(1 + d1).toNat, by omega⟩
    ((try (conv => whnf)); repeat (first | (refine cndT rfl ?_; (try (conv => whnf))) | (refine cndF rfl ?_; (try (conv => whnf)))))
    rw [hn]
    refine ⟨p, n, wk, rfl, h3, rfl, by omega, fun T x wp wq ln lw lt M W H4 nx nwp nwq nln nlw nlt k4 h4 eT md hnl hst => ?_⟩
    have s04 := sameKx s03 npH k4
    have nwpp : wp ≠ p := (ne_n h3.ne nwp).symm
    refine ⟨T, _, rfl, SqT.of eT, rfl, _, _, rfl, _, _, rfl, _, _, rfl, _, _, rfl, rfl, ?_⟩
    ((try (conv => whnf)); repeat (first | (refine cndT rfl ?_; (try (conv => whnf))) | (refine cndF rfl ?_; (try (conv => whnf)))))
    refine ⟨p, 5, rfl, h4, rfl, by decide, by decide, fun d4 H5 a6 a7 b5 h5 => ?_⟩
    obtain ⟨m, hm⟩ : ∃ m : Nat, d4 = m := ⟨d4.toNat, by omega⟩
    have hdm : 2 + d4 = ((2 + m : Nat) : Int) := by omega
    have hm6 : 2 + m ≤ 6 := by omega
    have hm2 : 2 ≤ 2 + m := by omega
    generalize 2 + m = parts at hdm hm6 hm2
    have k5 : Kx [p] H4 H5 := .but b5 (by simp)
    have md5 := md.kx h4 nwpp k5
    ((try (conv => whnf)); repeat (first | (refine cndT rfl ?_; (try (conv => whnf))) | (refine cndF rfl ?_; (try (conv => whnf)))))
    rw [hdm]
    refine ⟨p, ln, M.nm, parts, rfl, h5, rfl, md5.nm, md5.ok.nd, md5.ok.len, rfl, by omega, by omega, fun T2 cd tl kv told H6 ncd ntl k6 h6 eT2 ecd etl htl htr hperm => ?_⟩
    have ncdp : cd ≠ p := (ne_n h5.ne ncd).symm
    have md6 := md5.kx h5 nwpp k6
    have s06 := sameKx (sameKx s04 npH k5) npH k6
    refine ⟨T2, _, rfl, SqT.of eT2, rfl, _, _, rfl, _, _, rfl, rfl, ?_⟩
    obtain ⟨htf, hkp, hkey⟩ := told_cF md5.ok.nd htl hperm
    have ck : CutOk M.nm kv parts := ⟨hkp, md5.ok.nd, fun e he => htr _ (List.of_mem_zip (hperm.subset he)).2⟩
    have ok := md6.ok
    have keys := ok.keys
    have hgood := ok.good
    ((try (conv => whnf)); repeat (first | (refine cndT rfl ?_; (try (conv => whnf))) | (refine cndF rfl ?_; (try (conv => whnf)))))
    refine ⟨p, 100, rfl, h6, rfl, by decide, by decide, fun d7 H7 a8 a9 b7 h7 => ?_⟩
    have k7 : Kx [p] H6 H7 := .but b7 (by simp)
    have s07 := sameKx s06 npH k7
    ((try (conv => whnf)); repeat (first | (refine cndT rfl ?_; (try (conv => whnf))) | (refine cndF rfl ?_; (try (conv => whnf)))))
    intro r dx nr ndx nxd
    generalize hG : L2.upd _ r _ = H8
    have e8 := atOf hG
    have s8 : Same H7 H8 := hG ▸ Same.upd (Same.new (Same.refl _) ndx) nr
    clear hG
    refine ⟨r, dx, parts, 0, 1 + d7, rfl, rk, e8, rfl, rfl, rfl, by omega, by omega, by omega, by omega, by omega, by omega, fun H9 ru k9 => ⟨rfl, ?_⟩⟩
    have s79 : Same H7 H9 := fun b o e => k9 b o (by simp; exact ne_of_none e nr) (s8 b o e)
    have s09 := s07.trans s79
    have h9 := h7.same s79
    have md9 : MdO K H9 x wp wq ln lw lt M W := by
      have md7 := md6.kx h6 nwpp k7
      obtain ⟨ts, a, q⟩ := md7.ti
      exact ⟨md7.web.same s79, s79 _ _ md7.nm, s79 _ _ md7.ws, ⟨ts, s79 _ _ a, Paired.mapP q fun t e ht => s79 _ _ ht⟩, md7.ok⟩
    have ecd9 : H9 cd = some (.dK (emb kS kv)) := s79 _ _ (k7 _ _ (by simp; exact ncdp) ecd)
    have etl9 := s79 _ _ (k7.pr h6 etl prB_lst)
    have ask := md9.ask ecd9 ck
    ((try (conv => whnf)); repeat (first | (refine cndT rfl ?_; (try (conv => whnf))) | (refine cndF rfl ?_; (try (conv => whnf)))))
    refine ⟨x, wp, wq, cd, r, W, parts, 0, 1 + d7, kv, ask, hm6, ru, rfl, rfl, rfl, rfl, fun ah a5 Ha na5 sa all => ?_⟩
    have na5p : a5 ≠ p := (ne_n h9.ne na5).symm
    have ha := h9.same sa
    have ruA := ru
    ((try (conv => whnf)); repeat (first | (refine cndT rfl ?_; (try (conv => whnf))) | (refine cndF rfl ?_; (try (conv => whnf)))))
    refine ⟨3, rfl, by decide, by decide, ?_⟩
    -- three spoilt ones
    refine lcIt walk_range fun D hD => ⟨fun j H' => Kx [p] Ha H' ∧ Ha D = none ∧ PrO H' p ∧ ∃ bs : List Addr, bs.length = j ∧ H' D = some (.lst (bs.map V.ref)) ∧ ∀ b ∈ bs, b ≠ p ∧ SpoO H' M.nm parts b, ⟨.same (Same.new (Same.refl _) hD), hD, ha.same (Same.new (Same.refl _) hD), [], rfl, upd_same, fun b hb => by cases hb⟩, fun _ _ _ _ => trivial, ?_, ?_⟩
    · rintro j y Hb Hc hj ⟨kb, _, hb, bs, hbl, eD, hbs⟩ ⟨rfl, rfl⟩
      have nDp : D ≠ p := fun z => by
        obtain ⟨x', y', z', _, e'⟩ := hb
        rw [z, e'] at eD
        cases eD
      refine ⟨rfl, ?_⟩
      ((try (conv => whnf)); repeat (first | (refine cndT rfl ?_; (try (conv => whnf))) | (refine cndF rfl ?_; (try (conv => whnf)))))
      refine ⟨p, ln, cd, M.nm, parts, kv, rfl, hb, rfl, kb.pr ha (sa _ _ md9.nm) prB_lst, by omega, by omega, hgood, rfl, ncdp, kb _ _ (by simp; exact ncdp) (sa _ _ ecd9), ck, rfl, hm2, hm6, fun b Hd nb kd hd sd => ?_⟩
      have eDd := kd.pr hb eD prB_lst
      refine ⟨_, eDd, ?_, ?_, hD, ?_, bs ++ [b], ?_, ?_, ?_⟩
      · rw [List.length_map, sizeLine_eq]
        omega
      · exact fun c o hc e => by
          rw [upd_ne (ne_of_none e hD)]
          exact kd _ _ hc (kb _ _ hc e)
      · exact hd.upd nDp.symm
      · rw [List.length_append, hbl]
        rfl
      · rw [upd_same, List.map_append]
        rfl
      · intro c hc
        have up : ∀ {b'}, SpoO Hd M.nm parts b' → SpoO (L2.upd Hd D (.lst (bs.map V.ref ++ [.ref b]))) M.nm parts b' := fun {b'} q => by
          obtain ⟨kvs, q1, q2, q3, q4⟩ := q
          refine ⟨kvs, ?_, q2, fun e he => ⟨(q3 e he).1, (q3 e he).2.mono fun l ql => ?_⟩, q4⟩
          · rw [upd_ne (fun z => by rw [z, eDd] at q1; cases q1)]
            exact q1
          · rw [upd_ne (fun z => by
              rw [z, eDd] at ql
              have := congrArg (fun o : Option HO => match o with | some (.lst (.int _ :: _)) => true | _ => false) ql
              cases bs <;> cases this)]
            exact ql
        rcases List.mem_append.mp hc with hc | hc
        · obtain ⟨n1, n2⟩ := hbs c hc
          exact ⟨n1, up (n2.kx hb n1 kd)⟩
        · rw [List.mem_singleton.mp hc]
          exact ⟨(ne_n hb.ne nb).symm, up sd⟩
    rintro Hb ⟨kb, _, hb, bs, hbl, eD, hbs⟩
    ((try (conv => whnf)); repeat (first | (refine cndT rfl ?_; (try (conv => whnf))) | (refine cndF rfl ?_; (try (conv => whnf)))))
    have mdb : MdO K Hb x wp wq ln lw lt M W := by
      refine MdO.kx (p := p) ?_ ha nwpp kb
      obtain ⟨ts, a, q⟩ := md9.ti
      exact ⟨md9.web.same sa, sa _ _ md9.nm, sa _ _ md9.ws, ⟨ts, sa _ _ a, Paired.mapP q fun t e ht => sa _ _ ht⟩, md9.ok⟩
    have ecdb := kb _ _ (by simp; exact ncdp) (sa _ _ ecd9)
    have etlb := kb.pr ha (sa _ _ etl9) prB_lst
    have allb := all.kx ha na5p kb
    have askb := mdb.ask ecdb ck
    have rub : RuO K Hb r parts 0 (1 + d7) := ⟨ru.k, (let ⟨dx, e⟩ := ru.o; ⟨dx, kb.pr ha (sa _ _ e) prB_ins⟩)⟩
    have s0b : Same H Hb := sameKx (s09.trans sa) npH kb
    refine ⟨by show 0 ≤ sizeLine; decide, ?_⟩
    (intro et net; generalize hG : _root_.L2.upd _ et _ = Hc; have sc := sameOf net hG; have ec := atOf hG; clear hG; ((try (conv => whnf)); repeat (first | (refine cndT rfl ?_; (try (conv => whnf))) | (refine cndF rfl ?_; (try (conv => whnf))))))
    left
    intro ed ned
    generalize hG : L2.upd _ ed _ = Hd
    have sd := sameOf ned hG
    have eed := atOf hG
    clear hG
    ((try (conv => whnf)); repeat (first | (refine cndT rfl ?_; (try (conv => whnf))) | (refine cndF rfl ?_; (try (conv => whnf)))))
    refine ⟨by show 8 ≤ sizeLine; decide, ?_⟩
    (intro l8 nl8; generalize hG : _root_.L2.upd _ l8 _ = He; have se := sameOf nl8 hG; have e8' := atOf hG; clear hG; ((try (conv => whnf)); repeat (first | (refine cndT rfl ?_; (try (conv => whnf))) | (refine cndF rfl ?_; (try (conv => whnf))))))
    have sbe := (sc.trans sd).trans se
    refine catLs (sbe _ _ eD) e8' (by rw [List.length_map, hbl]; show 3 + 8 ≤ sizeLine; decide) fun la nla => ?_
    generalize hG : L2.upd _ la _ = Hf
    have sf := sameOf nla hG
    have ela := atOf hG
    clear hG
    have sbf := sbe.trans sf
    have hnm1 : 1 ≤ M.nm.length := by omega
    have els : ∀ v ∈ bs.map V.ref ++ [.non, .bl true, .int 0, .str "", .ref ln, .ref tl, .ref et, .ref ed], ElT K Hf M.nm parts v := fun v hv => by
      have kd : ∀ {v : V} {t : String} {d : PyData}, TyN K Hf v t → isO t "dict" = some false → Sd K Hf v d → d.showable = true → d.depth ≤ 60 → d.shown.length ≤ 5000000 → ElT K Hf M.nm parts v := fun h1 h2 h3 h4 h5 h6 => ⟨.kind h1 h2, _, h3, h4, h5, h6⟩
      rcases List.mem_append.mp hv with hv | hv
      · obtain ⟨b, hb', rfl⟩ := List.mem_map.mp hv
        exact ((hbs b hb').2.same sbf).el
      · simp only [List.mem_cons, List.not_mem_nil, or_false] at hv
        rcases hv with rfl | rfl | rfl | rfl | rfl | rfl | rfl | rfl
        · exact kd (t := "NoneType") (d := .none) rfl (by decide +kernel) .non rfl (by decide) (by decide +kernel)
        · exact kd (t := "bool") (d := .bool true) rfl (by decide +kernel) (.bl _) rfl (by decide) (by decide +kernel)
        · exact kd (t := "int") (d := .int 0) rfl (by decide +kernel) (.int _) (by decide +kernel) (by decide) (by decide +kernel)
        · exact kd (t := "str") (d := .str "") rfl (by decide +kernel) (.str _) rfl (by decide) (by decide +kernel)
        · have e := sbf _ _ mdb.nm
          exact ⟨.kind (TyN.lst e) (by decide +kernel), thr_list e (dpAll fun z _ => .str z) (by rw [List.length_map]; omega) fun d hd => by
            obtain ⟨z, hz, rfl⟩ := List.mem_map.mp hd
            exact nameS_data (hgood z hz)⟩
        · have e := sbf _ _ etlb
          exact ⟨.kind (TyN.lst e) (by decide +kernel), thr_list e (dpAll fun z _ => .int z) (by rw [List.length_map, htl]; omega) fun d hd => by
            obtain ⟨z, hz, rfl⟩ := List.mem_map.mp hd
            have := htr z hz
            exact smallI_data ⟨this.1, by omega⟩⟩
        · have e := (sd.trans (se.trans sf)) _ _ ec
          exact kd (t := "tuple") (d := .tuple []) (TyN.tup e) (by decide +kernel) (.tup (SqT.of e) .nil) rfl (by decide) (by decide +kernel)
        · have e := (se.trans sf) _ _ eed
          exact ⟨.len e (by show 0 ≠ _; omega), .dict [], .emK e, rfl, by decide, by decide +kernel⟩
    have askf := askb.same sbf
    have ruf : ∀ {H'}, Same Hf H' → RuO K H' r parts 0 (1 + d7) := fun s => ⟨ru.k, (let ⟨dx, e⟩ := rub.o; ⟨dx, s _ _ (sbf _ _ e)⟩)⟩
    ((try (conv => whnf)); repeat (first | (refine cndT rfl ?_; (try (conv => whnf))) | (refine cndF rfl ?_; (try (conv => whnf)))))
    refine .inl ⟨_, SqL.of ela, ?_⟩
    refine forL (SqL.of ela) (fun j σ H' => Same Hf H' ∧ ∃ v7 ve vf : Option V, σ = [some (.ref sp), some (.int (0 + (i : Int))), some (.ref p), some (.int parts), some (.ref r), some (.ref ah), some (.ref D), v7, some (.ref x), some (.ref ln), some (.ref lw), some (.ref lt), some (.ref cd), some (.ref tl), ve, vf]) ⟨Same.refl _, _, _, _, rfl⟩ ?_ ?_ ?_
    · rintro j σ H' _ ⟨sx, _⟩
      exact SqL.of (sx _ _ ela)
    · rintro j v σ Hg hv ⟨sg, v7, ve, vf, rfl⟩
      have elv := (els v (List.mem_of_getElem? hv)).same sg
      ((try (conv => whnf)); repeat (first | (refine cndT rfl ?_; (try (conv => whnf))) | (refine cndF rfl ?_; (try (conv => whnf)))))
      refine ⟨11, rfl, by decide, by decide, ?_⟩
      refine forR (fun j σ H' => Same Hg H' ∧ ∃ ve : Option V, σ = [some (.ref sp), some (.int (0 + (i : Int))), some (.ref p), some (.int parts), some (.ref r), some (.ref ah), some (.ref D), some v, some (.ref x), some (.ref ln), some (.ref lw), some (.ref lt), some (.ref cd), some (.ref tl), ve, vf]) ⟨Same.refl _, _, rfl⟩ ?_ ?_
      · rintro j σ Hh hj ⟨sh, ve, rfl⟩
        have elh := elv.same sh
        have hkn := keys
        ((try (conv => whnf)); repeat (first | (refine cndT rfl ?_; (try (conv => whnf))) | (refine cndF rfl ?_; (try (conv => whnf)))))
        refine ⟨x, wp, wq, cd, r, W, parts, 0, 1 + d7, kv, 0 + (j : Int), rfl, rfl, rfl, rfl, rfl, by omega, by omega, ⟨ek, (askf.same sg).same sh, ruf (sg.trans sh), by rw [keys]; exact elh.1⟩, elh.2, fun H' s' => ?_⟩
        ((try (conv => whnf)); repeat (first | (refine cndT rfl ?_; (try (conv => whnf))) | (refine cndF rfl ?_; (try (conv => whnf)))))
        exact ⟨sh.trans s', _, rfl⟩
      · rintro σ Hh ⟨sh, ve, rfl⟩
        exact ⟨sg.trans sh, _, _, _, rfl⟩
    rintro σ Hg ⟨sg, v7, ve, vf, rfl⟩
    ((try (conv => whnf)); repeat (first | (refine cndT rfl ?_; (try (conv => whnf))) | (refine cndF rfl ?_; (try (conv => whnf)))))
    refine ⟨x, wp, wq, cd, r, W, parts, 0, 1 + d7, kv, askf.same sg, hm6, ruf sg, rfl, rfl, rfl, rfl, fun ah2 a52 Hh na52 sh all2 => ?_⟩
    have all1 := (allb.same (sbf.trans sg)).same sh
    have hnames : ∀ z ∈ W.hv.map Prod.fst, nameS z = true := by rw [keys]; exact hgood
    have htn : ∀ e ∈ W.kn.map (tieT W), nameS e.1.1 = true ∧ nameS e.1.2 = true := fun e he => by
      obtain ⟨q1, q2⟩ := told_in ask e he
      exact ⟨hnames _ q1, hnames _ q2⟩
    refine neLD (all2.eq all1 htn hnames ask.nd) ?_
    ((try (conv => whnf)); repeat (first | (refine cndT rfl ?_; (try (conv => whnf))) | (refine cndF rfl ?_; (try (conv => whnf)))))
    exact ⟨((s0b.trans sbf).trans sg).trans sh, _, _, _, _, _, _, _, _, _, _, _, _, _, _, _, rfl⟩
  · rintro σ H1 ⟨s1, v1, v2, v3, v4, v5, v6, v7, v8, v9, va, vb, vc, vd, ve, vf, rfl⟩
    ((try (conv => whnf)); repeat (first | (refine cndT rfl ?_; (try (conv => whnf))) | (refine cndF rfl ?_; (try (conv => whnf)))))
    exact k H1

end Wk27
namespace Wk27
open PySem L2 PySem.Spec PyProof.Rows Rf
def top (i : Nat) : Stmt := PySem.Challenge.pw_evencut_k27_no_cuttings_at_any_door.main.body.getD i (.Pass ⟨0, 0, 0, 0⟩)
def d_l_cell : He.DefD := ⟨("_law_cell", none), "_law_cell", "_law_cell", defArgs (top 46), defBody (top 46), defScope (top 46), [], []⟩
def d_l_purse : He.DefD := ⟨("_law_purse", none), "_law_purse", "_law_purse", defArgs (top 47), defBody (top 47), defScope (top 47), [], []⟩
def d_l_take : He.DefD := ⟨("_law_take", none), "_law_take", "_law_take", defArgs (top 48), defBody (top 48), defScope (top 48), [], []⟩
def d_l_names : He.DefD := ⟨("_law_names", none), "_law_names", "_law_names", defArgs (top 49), defBody (top 49), defScope (top 49), [], []⟩
def d_l_size : He.DefD := ⟨("_law_size", none), "_law_size", "_law_size", defArgs (top 50), defBody (top 50), defScope (top 50), [], []⟩
def d_l_pairs : He.DefD := ⟨("_law_pairs", none), "_law_pairs", "_law_pairs", defArgs (top 51), defBody (top 51), defScope (top 51), [], []⟩
def d_Web_init : He.DefD := ⟨("Web", some "__init__"), "__init__", "Web.__init__", defArgs (inClass (top 44) 0), defBody (inClass (top 44) 0), defScope (inClass (top 44) 0), [], []⟩
def d_is_name : He.DefD := ⟨("is_name", none), "is_name", "is_name", defArgs (top 20), defBody (top 20), defScope (top 20), [], []⟩
def d_is_whole : He.DefD := ⟨("is_whole", none), "is_whole", "is_whole", defArgs (top 19), defBody (top 19), defScope (top 19), [], []⟩
def d_Web_need_weight : He.DefD := ⟨("Web", some "need_weight"), "need_weight", "Web.need_weight", defArgs (inClass (top 44) 5), defBody (inClass (top 44) 5), defScope (inClass (top 44) 5), [], []⟩
def d_Web_total : He.DefD := ⟨("Web", some "total"), "total", "Web.total", defArgs (inClass (top 44) 17), defBody (inClass (top 44) 17), defScope (inClass (top 44) 17), [], []⟩
def d_Web_put : He.DefD := ⟨("Web", some "put"), "put", "Web.put", defArgs (inClass (top 44) 6), defBody (inClass (top 44) 6), defScope (inClass (top 44) 6), [], []⟩
def d_Web_need_place : He.DefD := ⟨("Web", some "need_place"), "need_place", "Web.need_place", defArgs (inClass (top 44) 1), defBody (inClass (top 44) 1), defScope (inClass (top 44) 1), [], []⟩
def d_Web_need_two : He.DefD := ⟨("Web", some "need_two"), "need_two", "Web.need_two", defArgs (inClass (top 44) 2), defBody (inClass (top 44) 2), defScope (inClass (top 44) 2), [], []⟩
def d_Web_knot : He.DefD := ⟨("Web", some "knot"), "knot", "Web.knot", defArgs (inClass (top 44) 3), defBody (inClass (top 44) 3), defScope (inClass (top 44) 3), [], []⟩
def d_Web_force : He.DefD := ⟨("Web", some "force"), "force", "Web.force", defArgs (inClass (top 44) 18), defBody (inClass (top 44) 18), defScope (inClass (top 44) 18), [], []⟩
def d_Web_tie : He.DefD := ⟨("Web", some "tie"), "tie", "Web.tie", defArgs (inClass (top 44) 9), defBody (inClass (top 44) 9), defScope (inClass (top 44) 9), [], []⟩
def d_l_web : He.DefD := ⟨("_law_web", none), "_law_web", "_law_web", defArgs (top 52), defBody (top 52), defScope (top 52), [], []⟩
def d_l_cutting : He.DefD := ⟨("_law_cutting", none), "_law_cutting", "_law_cutting", defArgs (top 53), defBody (top 53), defScope (top 53), [], []⟩
def d_Rule_init : He.DefD := ⟨("Rule", some "__init__"), "__init__", "Rule.__init__", defArgs (inClass (top 39) 0), defBody (inClass (top 39) 0), defScope (inClass (top 39) 0), [], []⟩
def d_Web_names : He.DefD := ⟨("Web", some "names"), "names", "Web.names", defArgs (inClass (top 44) 12), defBody (inClass (top 44) 12), defScope (inClass (top 44) 12), [], []⟩
def d_fault_of : He.DefD := ⟨("fault_of", none), "fault_of", "fault_of", defArgs (top 22), defBody (top 22), defScope (top 22), [], []⟩
def d_NoCutting_init : He.DefD := ⟨("NoCutting", some "__init__"), "__init__", "NoCutting.__init__", defArgs (inClass (top 15) 0), defBody (inClass (top 15) 0), defScope (inClass (top 15) 0), [], []⟩
def d_need_cutting : He.DefD := ⟨("need_cutting", none), "need_cutting", "need_cutting", defArgs (top 23), defBody (top 23), defScope (top 23), [], []⟩
def d_Web_ties : He.DefD := ⟨("Web", some "ties"), "ties", "Web.ties", defArgs (inClass (top 44) 14), defBody (inClass (top 44) 14), defScope (inClass (top 44) 14), [], []⟩
def d_cut_ties : He.DefD := ⟨("cut_ties", none), "cut_ties", "cut_ties", defArgs (top 24), defBody (top 24), defScope (top 24), [], []⟩
def d_between_parts : He.DefD := ⟨("between_parts", none), "between_parts", "between_parts", defArgs (top 28), defBody (top 28), defScope (top 28), [], []⟩
def d_part_names : He.DefD := ⟨("part_names", none), "part_names", "part_names", defArgs (top 27), defBody (top 27), defScope (top 27), [], []⟩
def d_numbered : He.DefD := ⟨("numbered", none), "numbered", "numbered", defArgs (top 30), defBody (top 30), defScope (top 30), [], []⟩
def d_Web_weight : He.DefD := ⟨("Web", some "weight"), "weight", "Web.weight", defArgs (inClass (top 44) 13), defBody (inClass (top 44) 13), defScope (inClass (top 44) 13), [], []⟩
def d_part_weights : He.DefD := ⟨("part_weights", none), "part_weights", "part_weights", defArgs (top 26), defBody (top 26), defScope (top 26), [], []⟩
def d_Rule_does : He.DefD := ⟨("Rule", some "does"), "does", "Rule.does", defArgs (inClass (top 39) 2), defBody (inClass (top 39) 2), defScope (inClass (top 39) 2), [], []⟩
def d_first_beyond : He.DefD := ⟨("first_beyond", none), "first_beyond", "first_beyond", defArgs (top 29), defBody (top 29), defScope (top 29), [], []⟩
def d_l_all : He.DefD := ⟨("_law_all", none), "_law_all", "_law_all", defArgs (top 57), defBody (top 57), defScope (top 57), [], []⟩
def d_l_spoilt : He.DefD := ⟨("_law_spoilt", none), "_law_spoilt", "_law_spoilt", defArgs (top 54), defBody (top 54), defScope (top 54), [], []⟩
def d_cut_strength : He.DefD := ⟨("cut_strength", none), "cut_strength", "cut_strength", defArgs (top 25), defBody (top 25), defScope (top 25), [], []⟩
def d_apart_at : He.DefD := ⟨("apart_at", none), "apart_at", "apart_at", defArgs (top 31), defBody (top 31), defScope (top 31), [], []⟩
def d_orders_of : He.DefD := ⟨("orders_of", none), "orders_of", "orders_of", defArgs (top 32), defBody (top 32), defScope (top 32), [], []⟩
def d_agreeing : He.DefD := ⟨("agreeing", none), "agreeing", "agreeing", defArgs (top 33), defBody (top 33), defScope (top 33), [], []⟩
def d_nearest : He.DefD := ⟨("nearest", none), "nearest", "nearest", defArgs (top 34), defBody (top 34), defScope (top 34), [], []⟩
def d_l_called : He.DefD := ⟨("_law_called", none), "_law_called", "_law_called", defArgs (top 55), defBody (top 55), defScope (top 55), [], []⟩
def d_l_refused : He.DefD := ⟨("_law_refused", none), "_law_refused", "_law_refused", defArgs (top 56), defBody (top 56), defScope (top 56), [], []⟩
def d_law : He.DefD := ⟨("law", none), "law", "law", defArgs (top 58), defBody (top 58), defScope (top 58), [], []⟩
def fn : List He.DefD := [d_l_cell, d_l_purse, d_l_take, d_l_names, d_l_size, d_l_pairs, d_Web_init, d_is_name, d_is_whole, d_Web_need_weight, d_Web_total, d_Web_put, d_Web_need_place, d_Web_need_two, d_Web_knot, d_Web_force, d_Web_tie, d_l_web, d_l_cutting, d_Rule_init, d_Web_names, d_fault_of, d_NoCutting_init, d_need_cutting, d_Web_ties, d_cut_ties, d_between_parts, d_part_names, d_numbered, d_Web_weight, d_part_weights, d_Rule_does, d_first_beyond, d_l_all, d_l_spoilt, d_cut_strength, d_apart_at, d_orders_of, d_agreeing, d_nearest, d_l_called, d_l_refused, d_law]
def fa : List He.Fa := ([.glo "_law_cell", .free "len", .glo "_law_purse", .free "max", .glo "_law_take", .glo "_law_names", .free "range", .glo "_law_size", .glo "_law_pairs", .free "min", .cls "Web", .glo "is_name", .int "LONGEST_NAME" 8, .free "str", .free "isinstance", .str "LETTERS" "abcdefghijklmnopqrstuvwxyz", .free "all", .glo "is_whole", .free "bool", .free "int", .int "MOST" 1000000000, .meth "Web" "need_weight", .free "sum", .meth "Web" "total", .int "MOST_PLACES" 60, .meth "Web" "put", .meth "Web" "need_place", .meth "Web" "need_two", .meth "Web" "knot", .meth "Web" "force"] : List He.Fa) ++ ([.int "MOST_TIES" 200, .meth "Web" "tie", .glo "_law_web", .glo "Web", .mkr "Web", .free "zip", .glo "_law_cutting", .free "list", .int "MOST_PARTS" 6, .int "LEAST_PARTS" 2, .int "GREATEST_BOUND" 1000000000, .cls "Rule", .meth "Web" "names", .glo "fault_of", .free "dict", .glo "CutError", .glo "need_cutting", .glo "NoCutting", .free "enumerate", .meth "Web" "ties", .glo "cut_ties", .glo "between_parts", .free "sorted", .glo "part_names", .glo "numbered", .meth "Web" "weight", .glo "part_weights", .meth "Rule" "does", .glo "first_beyond", .glo "_law_all"] : List He.Fa) ++ ([.glo "_law_spoilt", .glo "cut_strength", .glo "apart_at", .glo "orders_of", .glo "agreeing", .glo "nearest", .glo "_law_called", .glo "_law_refused", .free "ValueError", .glo "NoPlace", .glo "NoParts", .free "repr", .glo "law", .glo "Rule", .mkr "Rule", .noat "Web" "heavy", .noat "Web" "knots", .noat "Rule" "parts", .noat "Rule" "low", .noat "Rule" "high"] : List He.Fa)
def exL : List (PySem.W.Frag → Bool) := [fun K => errB K errsL testsL, fun K => bexB K (He.ga K "CutError"), fun K => exInitB K (He.ga K "NoCutting"), fun K => oexB K (He.ga K "NoCutting")]
def exB (K : PySem.W.Frag) : Bool := exL.all fun f => f K
theorem ex_at {K : PySem.W.Frag} (ce : exB K = true) (i : Nat) {f : PySem.W.Frag → Bool} (h : exL[i]? = some f) : f K = true := List.all_eq_true.mp ce f (List.mem_of_getElem? h)
section
variable {P : Program} {w : World} {K : PySem.W.Frag} {h : Heap} {mg : Str → Option Value} {base : Heap}
theorem fk_l_cell (X : K.In h) (G : h.Ns mainGlobals mg) (c : He.SaysD fa fn K) (ce : exB K = true) : FnC P w K mg base "_law_cell" 1 (sp_l_cell K) [] :=
  def_fn (N := ["_law_script", "_law_k"]) (ps := ["_law_script", "_law_k"]) (G := [("len", .bl)]) (M := []) (Hs := []) (t := t_l_cell K) (c.def_ 0 (d := d_l_cell) (by rfl)) (He.glo_ok X G (c.fact 0 (by rfl))) (by decide +kernel) 60 (fun vs H Q E h => match vs, h with | [_, _], _ => rfl) (fun _ => by kernel_rfl) (fun vs H Q E h => match vs, h with | [a0, a1], h => pure_l_cell h) ⟨He.free_ok X G (c.fact 1 (by rfl)), trivial⟩ trivial trivial (fun _ _ _ _ _ _ us hl => match us, hl with | [_, _], _ => rfl)
theorem fk_l_purse (X : K.In h) (G : h.Ns mainGlobals mg) (c : He.SaysD fa fn K) (ce : exB K = true) : FnC P w K mg base "_law_purse" 1 (sp_l_purse K) [] :=
  def_fn (N := ["_law_cell_here"]) (ps := ["_law_cell_here"]) (G := [("max", .bl)]) (M := []) (Hs := []) (t := t_l_purse K) (c.def_ 1 (d := d_l_purse) (by rfl)) (He.glo_ok X G (c.fact 2 (by rfl))) (by decide +kernel) 60 (fun vs H Q E h => match vs, h with | [_], _ => rfl) (fun _ => by kernel_rfl) (fun vs H Q E h => match vs, h with | [a0], h => pure_l_purse h) ⟨He.free_ok X G (c.fact 3 (by rfl)), trivial⟩ trivial trivial (fun _ _ _ _ _ _ us hl => match us, hl with | [_], _ => rfl)
theorem fk_l_take (X : K.In h) (G : h.Ns mainGlobals mg) (c : He.SaysD fa fn K) (ce : exB K = true) : FnC P w K mg base "_law_take" 1 (sp_l_take K) [] :=
  def_fn (N := ["_law_purse_here", "_law_many", "_law_number", "_law_digit"]) (ps := ["_law_purse_here", "_law_many"]) (G := []) (M := []) (Hs := []) (t := t_l_take K) (c.def_ 2 (d := d_l_take) (by rfl)) (He.glo_ok X G (c.fact 4 (by rfl))) (by decide +kernel) 60 (fun vs H Q E h => match vs, h with | [_, _], _ => rfl) (fun _ => by kernel_rfl) (fun vs H Q E h => match vs, h with | [a0, a1], h => pure_l_take h) trivial trivial trivial (fun _ _ _ _ _ _ us hl => match us, hl with | [_, _], _ => rfl)
theorem fk_l_names (X : K.In h) (G : h.Ns mainGlobals mg) (c : He.SaysD fa fn K) (ce : exB K = true) : FnC P w K mg base "_law_names" 2 (sp_l_names K) [] :=
  def_fn (N := ["_law_purse_here", "_law_many", "_law_letters", "_law_base", "_law_first", "_law_shift", "_law_found", "_law_k", "_law_head"]) (ps := ["_law_purse_here", "_law_many"]) (G := [("range", .bl), ("_law_take", .fn (sp_l_take K) [])]) (M := []) (Hs := []) (t := t_l_names K) (c.def_ 3 (d := d_l_names) (by rfl)) (He.glo_ok X G (c.fact 5 (by rfl))) (by decide +kernel) 60 (fun vs H Q E h => match vs, h with | [_, _], _ => rfl) (fun _ => by kernel_rfl) (fun vs H Q E h => match vs, h with | [a0, a1], h => pure_l_names h) ⟨He.free_ok X G (c.fact 6 (by rfl)), ⟨1, by decide, fk_l_take X G c ce⟩, trivial⟩ trivial trivial (fun _ _ _ _ _ _ us hl => match us, hl with | [_, _], _ => rfl)
theorem fk_l_size (X : K.In h) (G : h.Ns mainGlobals mg) (c : He.SaysD fa fn K) (ce : exB K = true) : FnC P w K mg base "_law_size" 2 (sp_l_size K) [] :=
  def_fn (N := ["_law_purse_here", "_law_kind", "_law_most", "_law_some"]) (ps := ["_law_purse_here", "_law_kind", "_law_most"]) (G := [("_law_take", .fn (sp_l_take K) [])]) (M := []) (Hs := []) (t := t_l_size K) (c.def_ 4 (d := d_l_size) (by rfl)) (He.glo_ok X G (c.fact 7 (by rfl))) (by decide +kernel) 60 (fun vs H Q E h => match vs, h with | [_, _, _], _ => rfl) (fun _ => by kernel_rfl) (fun vs H Q E h => match vs, h with | [a0, a1, a2], h => pure_l_size h) ⟨⟨1, by decide, fk_l_take X G c ce⟩, trivial⟩ trivial trivial (fun _ _ _ _ _ _ us hl => match us, hl with | [_, _, _], _ => rfl)
theorem fk_l_pairs (X : K.In h) (G : h.Ns mainGlobals mg) (c : He.SaysD fa fn K) (ce : exB K = true) : FnC P w K mg base "_law_pairs" 2 (sp_l_pairs K) [] :=
  def_fn (N := ["_law_purse_here", "_law_many", "_law_count", "_law_found", "_law_k", "_law_one", "_law_other", "_law_pair"]) (ps := ["_law_purse_here", "_law_many", "_law_count"]) (G := [("range", .bl), ("_law_take", .fn (sp_l_take K) []), ("max", .bl), ("min", .bl)]) (M := []) (Hs := []) (t := t_l_pairs K) (c.def_ 5 (d := d_l_pairs) (by rfl)) (He.glo_ok X G (c.fact 8 (by rfl))) (by decide +kernel) 60 (fun vs H Q E h => match vs, h with | [_, _, _], _ => rfl) (fun _ => by kernel_rfl) (fun vs H Q E h => match vs, h with | [a0, a1, a2], h => pure_l_pairs h) ⟨He.free_ok X G (c.fact 6 (by rfl)), ⟨1, by decide, fk_l_take X G c ce⟩, He.free_ok X G (c.fact 3 (by rfl)), He.free_ok X G (c.fact 9 (by rfl)), trivial⟩ trivial trivial (fun _ _ _ _ _ _ us hl => match us, hl with | [_, _, _], _ => rfl)
theorem fk_Web_init (X : K.In h) (G : h.Ns mainGlobals mg) (c : He.SaysD fa fn K) (ce : exB K = true) : ClC P w K mg base "Web" (He.ga K "Web") 1 (sp_Web_init K) [] :=
  def_cl (N := ["self"]) (ps := ["self"]) (G := []) (M := []) (Hs := []) (t := t_Web_init K) (c.def_ 6 (d := d_Web_init) (by rfl)) (He.glo_ok X G (c.fact 33 (by rfl))) (He.mkr_ok (c.fact 34 (by rfl))) (by decide +kernel) 60 (fun vs H Q E h => match vs, h with | [_], _ => rfl) (fun _ => by kernel_rfl) (fun vs H Q E h => match vs, h with | [a0], h => pure_Web_init h) trivial trivial trivial (fun _ _ _ _ _ _ us hl => match us, hl with | [_], _ => rfl)
theorem fk_is_name (X : K.In h) (G : h.Ns mainGlobals mg) (c : He.SaysD fa fn K) (ce : exB K = true) : FnC P w K mg base "is_name" 1 (sp_is_name K) [] :=
  def_fn (N := ["thing", "sign"]) (ps := ["thing"]) (G := [("len", .bl), ("LONGEST_NAME", .con (.int 8)), ("str", .bl), ("isinstance", .bl), ("LETTERS", .con (.str "abcdefghijklmnopqrstuvwxyz")), ("all", .bl)]) (M := []) (Hs := []) (t := t_is_name K) (c.def_ 7 (d := d_is_name) (by rfl)) (He.glo_ok X G (c.fact 11 (by rfl))) (by decide +kernel) 60 (fun vs H Q E h => match vs, h with | [_], _ => rfl) (fun _ => by kernel_rfl) (fun vs H Q E h => match vs, h with | [a0], h => pure_is_name h) ⟨He.free_ok X G (c.fact 1 (by rfl)), (let ⟨t, e⟩ := He.int_ok X G (c.fact 12 (by rfl)); ⟨_, e, ⟨t, rfl⟩⟩), He.free_ok X G (c.fact 13 (by rfl)), He.free_ok X G (c.fact 14 (by rfl)), (let ⟨t, e⟩ := He.str_ok X G (c.fact 15 (by rfl)); ⟨_, e, ⟨t, rfl⟩⟩), He.free_ok X G (c.fact 16 (by rfl)), trivial⟩ trivial trivial (fun _ _ _ _ _ _ us hl => match us, hl with | [_], _ => rfl)
theorem fk_is_whole (X : K.In h) (G : h.Ns mainGlobals mg) (c : He.SaysD fa fn K) (ce : exB K = true) : FnC P w K mg base "is_whole" 1 (sp_is_whole K) [] :=
  def_fn (N := ["thing", "low", "high"]) (ps := ["thing", "low", "high"]) (G := [("bool", .bl), ("isinstance", .bl), ("int", .bl)]) (M := []) (Hs := []) (t := t_is_whole K) (c.def_ 8 (d := d_is_whole) (by rfl)) (He.glo_ok X G (c.fact 17 (by rfl))) (by decide +kernel) 60 (fun vs H Q E h => match vs, h with | [_, _, _], _ => rfl) (fun _ => by kernel_rfl) (fun vs H Q E h => match vs, h with | [a0, a1, a2], h => pure_is_whole h) ⟨He.free_ok X G (c.fact 18 (by rfl)), He.free_ok X G (c.fact 14 (by rfl)), He.free_ok X G (c.fact 19 (by rfl)), trivial⟩ trivial trivial (fun _ _ _ _ _ _ us hl => match us, hl with | [_, _, _], _ => rfl)
theorem fk_Web_need_weight (X : K.In h) (G : h.Ns mainGlobals mg) (c : He.SaysD fa fn K) (ce : exB K = true) : MeC P w K mg base "need_weight" (He.ga K "Web") 2 (sp_Web_need_weight K) [] :=
  def_me (N := ["self", "weight"]) (ps := ["self", "weight"]) (G := [("MOST", .con (.int 1000000000)), ("is_whole", .fn (sp_is_whole K) [])]) (M := []) (Hs := []) (t := t_Web_need_weight K) (c.def_ 9 (d := d_Web_need_weight) (by rfl)) (He.cls_ok (c.fact 10 (by rfl))) (He.meth_ok (c.fact 21 (by rfl))) (by decide +kernel) 60 (fun vs H Q E h => match vs, h with | [_, _], _ => rfl) (fun _ => by kernel_rfl) (fun vs H Q E h => match vs, h with | [a0, a1], h => pure_Web_need_weight h) ⟨(let ⟨t, e⟩ := He.int_ok X G (c.fact 20 (by rfl)); ⟨_, e, ⟨t, rfl⟩⟩), ⟨1, by decide, fk_is_whole X G c ce⟩, trivial⟩ trivial trivial (fun _ _ _ _ _ _ us hl => match us, hl with | [_, _], _ => rfl)
theorem fk_Web_total (X : K.In h) (G : h.Ns mainGlobals mg) (c : He.SaysD fa fn K) (ce : exB K = true) : MeC P w K mg base "total" (He.ga K "Web") 1 (sp_Web_total K) [] :=
  def_me (N := ["self", "weight"]) (ps := ["self"]) (G := [("sum", .bl)]) (M := []) (Hs := []) (t := t_Web_total K) (c.def_ 10 (d := d_Web_total) (by rfl)) (He.cls_ok (c.fact 10 (by rfl))) (He.meth_ok (c.fact 23 (by rfl))) (by decide +kernel) 60 (fun vs H Q E h => match vs, h with | [_], _ => rfl) (fun _ => by kernel_rfl) (fun vs H Q E h => match vs, h with | [a0], h => pure_Web_total h) ⟨He.free_ok X G (c.fact 22 (by rfl)), trivial⟩ trivial trivial (fun _ _ _ _ _ _ us hl => match us, hl with | [_], _ => rfl)
theorem fk_Web_put (X : K.In h) (G : h.Ns mainGlobals mg) (c : He.SaysD fa fn K) (ce : exB K = true) : MeC P w K mg base "put" (He.ga K "Web") 3 (sp_Web_put K) [] :=
  def_me (N := ["self", "name", "weight"]) (ps := ["self", "name", "weight"]) (G := [("is_name", .fn (sp_is_name K) []), ("len", .bl), ("MOST_PLACES", .con (.int 60)), ("MOST", .con (.int 1000000000))]) (M := [("need_weight", He.ga K "Web", sp_Web_need_weight K, []), ("total", He.ga K "Web", sp_Web_total K, [])]) (Hs := []) (t := t_Web_put K) (c.def_ 11 (d := d_Web_put) (by rfl)) (He.cls_ok (c.fact 10 (by rfl))) (He.meth_ok (c.fact 25 (by rfl))) (by decide +kernel) 60 (fun vs H Q E h => match vs, h with | [_, _, _], _ => rfl) (fun _ => by kernel_rfl) (fun vs H Q E h => match vs, h with | [a0, a1, a2], h => pure_Web_put h) ⟨⟨1, by decide, fk_is_name X G c ce⟩, He.free_ok X G (c.fact 1 (by rfl)), (let ⟨t, e⟩ := He.int_ok X G (c.fact 24 (by rfl)); ⟨_, e, ⟨t, rfl⟩⟩), (let ⟨t, e⟩ := He.int_ok X G (c.fact 20 (by rfl)); ⟨_, e, ⟨t, rfl⟩⟩), trivial⟩ ⟨⟨2, by decide, fk_Web_need_weight X G c ce⟩, ⟨1, by decide, fk_Web_total X G c ce⟩, trivial⟩ trivial (fun _ _ _ _ _ _ us hl => match us, hl with | [_, _, _], _ => rfl)
theorem fk_Web_need_place (X : K.In h) (G : h.Ns mainGlobals mg) (c : He.SaysD fa fn K) (ce : exB K = true) : MeC P w K mg base "need_place" (He.ga K "Web") 1 (sp_Web_need_place K) [] :=
  def_me (N := ["self", "name"]) (ps := ["self", "name"]) (G := [("str", .bl), ("isinstance", .bl)]) (M := []) (Hs := []) (t := t_Web_need_place K) (c.def_ 12 (d := d_Web_need_place) (by rfl)) (He.cls_ok (c.fact 10 (by rfl))) (He.meth_ok (c.fact 26 (by rfl))) (by decide +kernel) 60 (fun vs H Q E h => match vs, h with | [_, _], _ => rfl) (fun _ => by kernel_rfl) (fun vs H Q E h => match vs, h with | [a0, a1], h => pure_Web_need_place h) ⟨He.free_ok X G (c.fact 13 (by rfl)), He.free_ok X G (c.fact 14 (by rfl)), trivial⟩ trivial trivial (fun _ _ _ _ _ _ us hl => match us, hl with | [_, _], _ => rfl)
theorem fk_Web_need_two (X : K.In h) (G : h.Ns mainGlobals mg) (c : He.SaysD fa fn K) (ce : exB K = true) : MeC P w K mg base "need_two" (He.ga K "Web") 2 (sp_Web_need_two K) [] :=
  def_me (N := ["self", "one", "other"]) (ps := ["self", "one", "other"]) (G := []) (M := [("need_place", He.ga K "Web", sp_Web_need_place K, [])]) (Hs := []) (t := t_Web_need_two K) (c.def_ 13 (d := d_Web_need_two) (by rfl)) (He.cls_ok (c.fact 10 (by rfl))) (He.meth_ok (c.fact 27 (by rfl))) (by decide +kernel) 60 (fun vs H Q E h => match vs, h with | [_, _, _], _ => rfl) (fun _ => by kernel_rfl) (fun vs H Q E h => match vs, h with | [a0, a1, a2], h => pure_Web_need_two h) trivial ⟨⟨1, by decide, fk_Web_need_place X G c ce⟩, trivial⟩ trivial (fun _ _ _ _ _ _ us hl => match us, hl with | [_, _, _], _ => rfl)
theorem fk_Web_knot (X : K.In h) (G : h.Ns mainGlobals mg) (c : He.SaysD fa fn K) (ce : exB K = true) : MeC P w K mg base "knot" (He.ga K "Web") 1 (sp_Web_knot K) [] :=
  def_me (N := ["self", "one", "other"]) (ps := ["self", "one", "other"]) (G := []) (M := []) (Hs := []) (t := t_Web_knot K) (c.def_ 14 (d := d_Web_knot) (by rfl)) (He.cls_ok (c.fact 10 (by rfl))) (He.meth_ok (c.fact 28 (by rfl))) (by decide +kernel) 60 (fun vs H Q E h => match vs, h with | [_, _, _], _ => rfl) (fun _ => by kernel_rfl) (fun vs H Q E h => match vs, h with | [a0, a1, a2], h => pure_Web_knot h) trivial trivial trivial (fun _ _ _ _ _ _ us hl => match us, hl with | [_, _, _], _ => rfl)
theorem fk_Web_force (X : K.In h) (G : h.Ns mainGlobals mg) (c : He.SaysD fa fn K) (ce : exB K = true) : MeC P w K mg base "force" (He.ga K "Web") 1 (sp_Web_force K) [] :=
  def_me (N := ["self", "strength"]) (ps := ["self"]) (G := [("sum", .bl)]) (M := []) (Hs := []) (t := t_Web_force K) (c.def_ 15 (d := d_Web_force) (by rfl)) (He.cls_ok (c.fact 10 (by rfl))) (He.meth_ok (c.fact 29 (by rfl))) (by decide +kernel) 60 (fun vs H Q E h => match vs, h with | [_], _ => rfl) (fun _ => by kernel_rfl) (fun vs H Q E h => match vs, h with | [a0], h => pure_Web_force h) ⟨He.free_ok X G (c.fact 22 (by rfl)), trivial⟩ trivial trivial (fun _ _ _ _ _ _ us hl => match us, hl with | [_], _ => rfl)
theorem fk_Web_tie (X : K.In h) (G : h.Ns mainGlobals mg) (c : He.SaysD fa fn K) (ce : exB K = true) : MeC P w K mg base "tie" (He.ga K "Web") 3 (sp_Web_tie K) [] :=
  def_me (N := ["self", "one", "other", "strength"]) (ps := ["self", "one", "other", "strength"]) (G := [("MOST", .con (.int 1000000000)), ("is_whole", .fn (sp_is_whole K) []), ("len", .bl), ("MOST_TIES", .con (.int 200))]) (M := [("need_two", He.ga K "Web", sp_Web_need_two K, []), ("knot", He.ga K "Web", sp_Web_knot K, []), ("force", He.ga K "Web", sp_Web_force K, [])]) (Hs := []) (t := t_Web_tie K) (c.def_ 16 (d := d_Web_tie) (by rfl)) (He.cls_ok (c.fact 10 (by rfl))) (He.meth_ok (c.fact 31 (by rfl))) (by decide +kernel) 60 (fun vs H Q E h => match vs, h with | [_, _, _, _], _ => rfl) (fun _ => by kernel_rfl) (fun vs H Q E h => match vs, h with | [a0, a1, a2, a3], h => pure_Web_tie h) ⟨(let ⟨t, e⟩ := He.int_ok X G (c.fact 20 (by rfl)); ⟨_, e, ⟨t, rfl⟩⟩), ⟨1, by decide, fk_is_whole X G c ce⟩, He.free_ok X G (c.fact 1 (by rfl)), (let ⟨t, e⟩ := He.int_ok X G (c.fact 30 (by rfl)); ⟨_, e, ⟨t, rfl⟩⟩), trivial⟩ ⟨⟨2, by decide, fk_Web_need_two X G c ce⟩, ⟨1, by decide, fk_Web_knot X G c ce⟩, ⟨1, by decide, fk_Web_force X G c ce⟩, trivial⟩ trivial (fun _ _ _ _ _ _ us hl => match us, hl with | [_, _, _, _], _ => rfl)
theorem fk_l_web (X : K.In h) (G : h.Ns mainGlobals mg) (c : He.SaysD fa fn K) (ce : exB K = true) : FnC P w K mg base "_law_web" 4 (sp_l_web K) [] :=
  def_fn (N := ["_law_purse_here", "_law_many", "_law_names_here", "_law_kind", "_law_weights", "_law_ties", "_law_web_here", "_law_name", "_law_weight", "_law_one", "_law_other", "_law_strength", "_law_ends"]) (ps := ["_law_purse_here", "_law_many"]) (G := [("_law_names", .fn (sp_l_names K) []), ("_law_take", .fn (sp_l_take K) []), ("_law_size", .fn (sp_l_size K) []), ("_law_pairs", .fn (sp_l_pairs K) []), ("Web", .cls (He.ga K "Web") (sp_Web_init K) []), ("zip", .bl)]) (M := [("put", He.ga K "Web", sp_Web_put K, []), ("tie", He.ga K "Web", sp_Web_tie K, [])]) (Hs := []) (t := t_l_web K) (c.def_ 17 (d := d_l_web) (by rfl)) (He.glo_ok X G (c.fact 32 (by rfl))) (by decide +kernel) 60 (fun vs H Q E h => match vs, h with | [_, _], _ => rfl) (fun _ => by kernel_rfl) (fun vs H Q E h => match vs, h with | [a0, a1], h => pure_l_web h) ⟨⟨2, by decide, fk_l_names X G c ce⟩, ⟨1, by decide, fk_l_take X G c ce⟩, ⟨2, by decide, fk_l_size X G c ce⟩, ⟨2, by decide, fk_l_pairs X G c ce⟩, ⟨1, by decide, fk_Web_init X G c ce⟩, He.free_ok X G (c.fact 35 (by rfl)), trivial⟩ ⟨⟨3, by decide, fk_Web_put X G c ce⟩, ⟨3, by decide, fk_Web_tie X G c ce⟩, trivial⟩ trivial (fun _ _ _ _ _ _ us hl => match us, hl with | [_, _], _ => rfl)
theorem fk_l_cutting (X : K.In h) (G : h.Ns mainGlobals mg) (c : He.SaysD fa fn K) (ce : exB K = true) : FnC P w K mg base "_law_cutting" 2 (sp_l_cutting K) [] :=
  def_fn (N := ["_law_purse_here", "_law_names_here", "_law_parts", "_law_found", "_law_at", "_law_told", "_law_name", "_law_part"]) (ps := ["_law_purse_here", "_law_names_here", "_law_parts"]) (G := [("len", .bl), ("_law_take", .fn (sp_l_take K) []), ("list", .bl), ("zip", .bl)]) (M := []) (Hs := []) (t := t_l_cutting K) (c.def_ 18 (d := d_l_cutting) (by rfl)) (He.glo_ok X G (c.fact 36 (by rfl))) (by decide +kernel) 60 (fun vs H Q E h => match vs, h with | [_, _, _], _ => rfl) (fun _ => by kernel_rfl) (fun vs H Q E h => match vs, h with | [a0, a1, a2], h => pure_l_cutting h) ⟨He.free_ok X G (c.fact 1 (by rfl)), ⟨1, by decide, fk_l_take X G c ce⟩, He.free_ok X G (c.fact 37 (by rfl)), He.free_ok X G (c.fact 35 (by rfl)), trivial⟩ trivial trivial (fun _ _ _ _ _ _ us hl => match us, hl with | [_, _, _], _ => rfl)
theorem fk_Rule_init (X : K.In h) (G : h.Ns mainGlobals mg) (c : He.SaysD fa fn K) (ce : exB K = true) : ClC P w K mg base "Rule" (He.ga K "Rule") 2 (sp_Rule_init K) [] :=
  def_cl (N := ["self", "parts", "low", "high"]) (ps := ["self", "parts", "low", "high"]) (G := [("MOST_PARTS", .con (.int 6)), ("LEAST_PARTS", .con (.int 2)), ("is_whole", .fn (sp_is_whole K) []), ("GREATEST_BOUND", .con (.int 1000000000)), ("max", .bl)]) (M := []) (Hs := []) (t := t_Rule_init K) (c.def_ 19 (d := d_Rule_init) (by rfl)) (He.glo_ok X G (c.fact 73 (by rfl))) (He.mkr_ok (c.fact 74 (by rfl))) (by decide +kernel) 60 (fun vs H Q E h => match vs, h with | [_, _, _, _], _ => rfl) (fun _ => by kernel_rfl) (fun vs H Q E h => match vs, h with | [a0, a1, a2, a3], h => pure_Rule_init h) ⟨(let ⟨t, e⟩ := He.int_ok X G (c.fact 38 (by rfl)); ⟨_, e, ⟨t, rfl⟩⟩), (let ⟨t, e⟩ := He.int_ok X G (c.fact 39 (by rfl)); ⟨_, e, ⟨t, rfl⟩⟩), ⟨1, by decide, fk_is_whole X G c ce⟩, (let ⟨t, e⟩ := He.int_ok X G (c.fact 40 (by rfl)); ⟨_, e, ⟨t, rfl⟩⟩), He.free_ok X G (c.fact 3 (by rfl)), trivial⟩ trivial trivial (fun _ _ _ _ _ _ us hl => match us, hl with | [_, _, _, _], _ => rfl)
theorem fk_Web_names (X : K.In h) (G : h.Ns mainGlobals mg) (c : He.SaysD fa fn K) (ce : exB K = true) : MeC P w K mg base "names" (He.ga K "Web") 1 (sp_Web_names K) [] :=
  def_me (N := ["self"]) (ps := ["self"]) (G := [("list", .bl)]) (M := []) (Hs := []) (t := t_Web_names K) (c.def_ 20 (d := d_Web_names) (by rfl)) (He.cls_ok (c.fact 10 (by rfl))) (He.meth_ok (c.fact 42 (by rfl))) (by decide +kernel) 60 (fun vs H Q E h => match vs, h with | [_], _ => rfl) (fun _ => by kernel_rfl) (fun vs H Q E h => match vs, h with | [a0], h => pure_Web_names h) ⟨He.free_ok X G (c.fact 37 (by rfl)), trivial⟩ trivial trivial (fun _ _ _ _ _ _ us hl => match us, hl with | [_], _ => rfl)
theorem fk_fault_of (X : K.In h) (G : h.Ns mainGlobals mg) (c : He.SaysD fa fn K) (ce : exB K = true) : FnC P w K mg base "fault_of" 2 (sp_fault_of K) [] :=
  def_fn (N := ["web", "parts", "thing", "names", "name"]) (ps := ["web", "parts", "thing"]) (G := [("all", .bl), ("len", .bl), ("dict", .bl), ("isinstance", .bl), ("is_whole", .fn (sp_is_whole K) [])]) (M := [("names", He.ga K "Web", sp_Web_names K, [])]) (Hs := []) (t := t_fault_of K) (c.def_ 21 (d := d_fault_of) (by rfl)) (He.glo_ok X G (c.fact 43 (by rfl))) (by decide +kernel) 60 (fun vs H Q E h => match vs, h with | [_, _, _], _ => rfl) (fun _ => by kernel_rfl) (fun vs H Q E h => match vs, h with | [a0, a1, a2], h => pure_fault_of h) ⟨He.free_ok X G (c.fact 16 (by rfl)), He.free_ok X G (c.fact 1 (by rfl)), He.free_ok X G (c.fact 44 (by rfl)), He.free_ok X G (c.fact 14 (by rfl)), ⟨1, by decide, fk_is_whole X G c ce⟩, trivial⟩ ⟨⟨1, by decide, fk_Web_names X G c ce⟩, trivial⟩ trivial (fun _ _ _ _ _ _ us hl => match us, hl with | [_, _, _], _ => rfl)
theorem fk_NoCutting_init (X : K.In h) (G : h.Ns mainGlobals mg) (c : He.SaysD fa fn K) (ce : exB K = true) : ExC P w K mg base "NoCutting" (He.ga K "NoCutting") 1 (sp_NoCutting_init K) [] :=
  def_ex (N := ["self", "found"]) (ps := ["self", "found"]) (G := [("CutError", .bex (He.ga K "CutError"))]) (M := []) (Hs := []) (t := t_NoCutting_init K) (c.def_ 22 (d := d_NoCutting_init) (by rfl)) (He.glo_ok X G (c.fact 47 (by rfl))) (oexB_ok (ex_at ce 3 (by rfl))) (exInitB_ok (ex_at ce 2 (by rfl))).1 (exInitB_ok (ex_at ce 2 (by rfl))).2 (by decide +kernel) 60 (fun vs H Q E h => match vs, h with | [_, _], _ => rfl) (fun _ => by kernel_rfl) (fun vs H Q E h => match vs, h with | [a0, a1], h => pure_NoCutting_init h) ⟨⟨He.glo_ok X G (c.fact 45 (by rfl)), bexB_ok (ex_at ce 1 (by rfl))⟩, trivial⟩ trivial trivial (fun _ _ _ _ _ _ us hl => match us, hl with | [_, _], _ => rfl)
theorem fk_need_cutting (X : K.In h) (G : h.Ns mainGlobals mg) (c : He.SaysD fa fn K) (ce : exB K = true) : FnC P w K mg base "need_cutting" 3 (sp_need_cutting K) [] :=
  def_fn (N := ["web", "parts", "thing"]) (ps := ["web", "parts", "thing"]) (G := [("fault_of", .fn (sp_fault_of K) []), ("NoCutting", .exc (He.ga K "NoCutting") (sp_NoCutting_init K) [])]) (M := []) (Hs := []) (t := t_need_cutting K) (c.def_ 23 (d := d_need_cutting) (by rfl)) (He.glo_ok X G (c.fact 46 (by rfl))) (by decide +kernel) 60 (fun vs H Q E h => match vs, h with | [_, _, _], _ => rfl) (fun _ => by kernel_rfl) (fun vs H Q E h => match vs, h with | [a0, a1, a2], h => pure_need_cutting h) ⟨⟨2, by decide, fk_fault_of X G c ce⟩, ⟨1, by decide, fk_NoCutting_init X G c ce⟩, trivial⟩ trivial trivial (fun _ _ _ _ _ _ us hl => match us, hl with | [_, _, _], _ => rfl)
theorem fk_Web_ties (X : K.In h) (G : h.Ns mainGlobals mg) (c : He.SaysD fa fn K) (ce : exB K = true) : MeC P w K mg base "ties" (He.ga K "Web") 1 (sp_Web_ties K) [] :=
  def_me (N := ["self", "ranks", "found", "at", "name", "strength", "one", "other"]) (ps := ["self"]) (G := [("enumerate", .bl)]) (M := []) (Hs := []) (t := t_Web_ties K) (c.def_ 24 (d := d_Web_ties) (by rfl)) (He.cls_ok (c.fact 10 (by rfl))) (He.meth_ok (c.fact 49 (by rfl))) (by decide +kernel) 60 (fun vs H Q E h => match vs, h with | [_], _ => rfl) (fun _ => by kernel_rfl) (fun vs H Q E h => match vs, h with | [a0], h => pure_Web_ties h) ⟨He.free_ok X G (c.fact 48 (by rfl)), trivial⟩ trivial trivial (fun _ _ _ _ _ _ us hl => match us, hl with | [_], _ => rfl)
theorem fk_cut_ties (X : K.In h) (G : h.Ns mainGlobals mg) (c : He.SaysD fa fn K) (ce : exB K = true) : FnC P w K mg base "cut_ties" 4 (sp_cut_ties K) [] :=
  def_fn (N := ["web", "parts", "cutting", "one", "other", "strength"]) (ps := ["web", "parts", "cutting"]) (G := [("need_cutting", .fn (sp_need_cutting K) [])]) (M := [("ties", He.ga K "Web", sp_Web_ties K, [])]) (Hs := []) (t := t_cut_ties K) (c.def_ 25 (d := d_cut_ties) (by rfl)) (He.glo_ok X G (c.fact 50 (by rfl))) (by decide +kernel) 60 (fun vs H Q E h => match vs, h with | [_, _, _], _ => rfl) (fun _ => by kernel_rfl) (fun vs H Q E h => match vs, h with | [a0, a1, a2], h => pure_cut_ties h) ⟨⟨3, by decide, fk_need_cutting X G c ce⟩, trivial⟩ ⟨⟨1, by decide, fk_Web_ties X G c ce⟩, trivial⟩ trivial (fun _ _ _ _ _ _ us hl => match us, hl with | [_, _, _], _ => rfl)
theorem fk_between_parts (X : K.In h) (G : h.Ns mainGlobals mg) (c : He.SaysD fa fn K) (ce : exB K = true) : FnC P w K mg base "between_parts" 5 (sp_between_parts K) [] :=
  def_fn (N := ["web", "parts", "cutting", "found", "rising", "pair", "one", "other", "strength"]) (ps := ["web", "parts", "cutting"]) (G := [("cut_ties", .fn (sp_cut_ties K) []), ("max", .bl), ("min", .bl), ("sorted", .bl)]) (M := []) (Hs := []) (t := t_between_parts K) (c.def_ 26 (d := d_between_parts) (by rfl)) (He.glo_ok X G (c.fact 51 (by rfl))) (by decide +kernel) 60 (fun vs H Q E h => match vs, h with | [_, _, _], _ => rfl) (fun _ => by kernel_rfl) (fun vs H Q E h => match vs, h with | [a0, a1, a2], h => pure_between_parts h) ⟨⟨4, by decide, fk_cut_ties X G c ce⟩, He.free_ok X G (c.fact 3 (by rfl)), He.free_ok X G (c.fact 9 (by rfl)), He.free_ok X G (c.fact 52 (by rfl)), trivial⟩ trivial trivial (fun _ _ _ _ _ _ us hl => match us, hl with | [_, _, _], _ => rfl)
theorem fk_part_names (X : K.In h) (G : h.Ns mainGlobals mg) (c : He.SaysD fa fn K) (ce : exB K = true) : FnC P w K mg base "part_names" 4 (sp_part_names K) [] :=
  def_fn (N := ["web", "parts", "cutting", "found", "name", "part"]) (ps := ["web", "parts", "cutting"]) (G := [("need_cutting", .fn (sp_need_cutting K) []), ("range", .bl)]) (M := [("names", He.ga K "Web", sp_Web_names K, [])]) (Hs := []) (t := t_part_names K) (c.def_ 27 (d := d_part_names) (by rfl)) (He.glo_ok X G (c.fact 53 (by rfl))) (by decide +kernel) 60 (fun vs H Q E h => match vs, h with | [_, _, _], _ => rfl) (fun _ => by kernel_rfl) (fun vs H Q E h => match vs, h with | [a0, a1, a2], h => pure_part_names h) ⟨⟨3, by decide, fk_need_cutting X G c ce⟩, He.free_ok X G (c.fact 6 (by rfl)), trivial⟩ ⟨⟨1, by decide, fk_Web_names X G c ce⟩, trivial⟩ trivial (fun _ _ _ _ _ _ us hl => match us, hl with | [_, _, _], _ => rfl)
theorem fk_numbered (X : K.In h) (G : h.Ns mainGlobals mg) (c : He.SaysD fa fn K) (ce : exB K = true) : FnC P w K mg base "numbered" 4 (sp_numbered K) [] :=
  def_fn (N := ["web", "parts", "cutting", "newer", "found", "name"]) (ps := ["web", "parts", "cutting"]) (G := [("need_cutting", .fn (sp_need_cutting K) []), ("len", .bl)]) (M := [("names", He.ga K "Web", sp_Web_names K, [])]) (Hs := []) (t := t_numbered K) (c.def_ 28 (d := d_numbered) (by rfl)) (He.glo_ok X G (c.fact 54 (by rfl))) (by decide +kernel) 60 (fun vs H Q E h => match vs, h with | [_, _, _], _ => rfl) (fun _ => by kernel_rfl) (fun vs H Q E h => match vs, h with | [a0, a1, a2], h => pure_numbered h) ⟨⟨3, by decide, fk_need_cutting X G c ce⟩, He.free_ok X G (c.fact 1 (by rfl)), trivial⟩ ⟨⟨1, by decide, fk_Web_names X G c ce⟩, trivial⟩ trivial (fun _ _ _ _ _ _ us hl => match us, hl with | [_, _, _], _ => rfl)
theorem fk_Web_weight (X : K.In h) (G : h.Ns mainGlobals mg) (c : He.SaysD fa fn K) (ce : exB K = true) : MeC P w K mg base "weight" (He.ga K "Web") 2 (sp_Web_weight K) [] :=
  def_me (N := ["self", "name"]) (ps := ["self", "name"]) (G := []) (M := [("need_place", He.ga K "Web", sp_Web_need_place K, [])]) (Hs := []) (t := t_Web_weight K) (c.def_ 29 (d := d_Web_weight) (by rfl)) (He.cls_ok (c.fact 10 (by rfl))) (He.meth_ok (c.fact 55 (by rfl))) (by decide +kernel) 60 (fun vs H Q E h => match vs, h with | [_, _], _ => rfl) (fun _ => by kernel_rfl) (fun vs H Q E h => match vs, h with | [a0, a1], h => pure_Web_weight h) trivial ⟨⟨1, by decide, fk_Web_need_place X G c ce⟩, trivial⟩ trivial (fun _ _ _ _ _ _ us hl => match us, hl with | [_, _], _ => rfl)
theorem fk_part_weights (X : K.In h) (G : h.Ns mainGlobals mg) (c : He.SaysD fa fn K) (ce : exB K = true) : FnC P w K mg base "part_weights" 4 (sp_part_weights K) [] :=
  def_fn (N := ["web", "parts", "cutting", "found", "name"]) (ps := ["web", "parts", "cutting"]) (G := [("need_cutting", .fn (sp_need_cutting K) [])]) (M := [("names", He.ga K "Web", sp_Web_names K, []), ("weight", He.ga K "Web", sp_Web_weight K, [])]) (Hs := []) (t := t_part_weights K) (c.def_ 30 (d := d_part_weights) (by rfl)) (He.glo_ok X G (c.fact 56 (by rfl))) (by decide +kernel) 60 (fun vs H Q E h => match vs, h with | [_, _, _], _ => rfl) (fun _ => by kernel_rfl) (fun vs H Q E h => match vs, h with | [a0, a1, a2], h => pure_part_weights h) ⟨⟨3, by decide, fk_need_cutting X G c ce⟩, trivial⟩ ⟨⟨1, by decide, fk_Web_names X G c ce⟩, ⟨2, by decide, fk_Web_weight X G c ce⟩, trivial⟩ trivial (fun _ _ _ _ _ _ us hl => match us, hl with | [_, _, _], _ => rfl)
theorem fk_Rule_does (X : K.In h) (G : h.Ns mainGlobals mg) (c : He.SaysD fa fn K) (ce : exB K = true) : MeC P w K mg base "does" (He.ga K "Rule") 1 (sp_Rule_does K) [] :=
  def_me (N := ["self", "weight"]) (ps := ["self", "weight"]) (G := []) (M := []) (Hs := []) (t := t_Rule_does K) (c.def_ 31 (d := d_Rule_does) (by rfl)) (He.cls_ok (c.fact 41 (by rfl))) (He.meth_ok (c.fact 57 (by rfl))) (by decide +kernel) 60 (fun vs H Q E h => match vs, h with | [_, _], _ => rfl) (fun _ => by kernel_rfl) (fun vs H Q E h => match vs, h with | [a0, a1], h => pure_Rule_does h) trivial trivial trivial (fun _ _ _ _ _ _ us hl => match us, hl with | [_, _], _ => rfl)
theorem fk_first_beyond (X : K.In h) (G : h.Ns mainGlobals mg) (c : He.SaysD fa fn K) (ce : exB K = true) : FnC P w K mg base "first_beyond" 5 (sp_first_beyond K) [] :=
  def_fn (N := ["web", "rule", "cutting", "part", "weight"]) (ps := ["web", "rule", "cutting"]) (G := [("enumerate", .bl), ("part_weights", .fn (sp_part_weights K) [])]) (M := [("does", He.ga K "Rule", sp_Rule_does K, [])]) (Hs := []) (t := t_first_beyond K) (c.def_ 32 (d := d_first_beyond) (by rfl)) (He.glo_ok X G (c.fact 58 (by rfl))) (by decide +kernel) 60 (fun vs H Q E h => match vs, h with | [_, _, _], _ => rfl) (fun _ => by kernel_rfl) (fun vs H Q E h => match vs, h with | [a0, a1, a2], h => pure_first_beyond h) ⟨He.free_ok X G (c.fact 48 (by rfl)), ⟨4, by decide, fk_part_weights X G c ce⟩, trivial⟩ ⟨⟨1, by decide, fk_Rule_does X G c ce⟩, trivial⟩ trivial (fun _ _ _ _ _ _ us hl => match us, hl with | [_, _, _], _ => rfl)
theorem fk_l_all (X : K.In h) (G : h.Ns mainGlobals mg) (c : He.SaysD fa fn K) (ce : exB K = true) : FnC P w K mg base "_law_all" 6 (sp_l_all K) [] :=
  def_fn (N := ["_law_web_here", "_law_parts", "_law_rule", "_law_cutting_here", "_law_found"]) (ps := ["_law_web_here", "_law_parts", "_law_rule", "_law_cutting_here"]) (G := [("between_parts", .fn (sp_between_parts K) []), ("part_names", .fn (sp_part_names K) []), ("cut_ties", .fn (sp_cut_ties K) []), ("numbered", .fn (sp_numbered K) []), ("first_beyond", .fn (sp_first_beyond K) [])]) (M := [("ties", He.ga K "Web", sp_Web_ties K, [])]) (Hs := []) (t := t_l_all K) (c.def_ 33 (d := d_l_all) (by rfl)) (He.glo_ok X G (c.fact 59 (by rfl))) (by decide +kernel) 60 (fun vs H Q E h => match vs, h with | [_, _, _, _], _ => rfl) (fun _ => by kernel_rfl) (fun vs H Q E h => match vs, h with | [a0, a1, a2, a3], h => pure_l_all h) ⟨⟨5, by decide, fk_between_parts X G c ce⟩, ⟨4, by decide, fk_part_names X G c ce⟩, ⟨4, by decide, fk_cut_ties X G c ce⟩, ⟨4, by decide, fk_numbered X G c ce⟩, ⟨5, by decide, fk_first_beyond X G c ce⟩, trivial⟩ ⟨⟨1, by decide, fk_Web_ties X G c ce⟩, trivial⟩ trivial (fun _ _ _ _ _ _ us hl => match us, hl with | [_, _, _, _], _ => rfl)
theorem fk_l_spoilt (X : K.In h) (G : h.Ns mainGlobals mg) (c : He.SaysD fa fn K) (ce : exB K = true) : FnC P w K mg base "_law_spoilt" 2 (sp_l_spoilt K) [] :=
  def_fn (N := ["_law_purse_here", "_law_names_here", "_law_cutting_here", "_law_parts", "_law_found", "_law_name", "_law_way"]) (ps := ["_law_purse_here", "_law_names_here", "_law_cutting_here", "_law_parts"]) (G := [("dict", .bl), ("len", .bl), ("_law_take", .fn (sp_l_take K) [])]) (M := []) (Hs := []) (t := t_l_spoilt K) (c.def_ 34 (d := d_l_spoilt) (by rfl)) (He.glo_ok X G (c.fact 60 (by rfl))) (by decide +kernel) 60 (fun vs H Q E h => match vs, h with | [_, _, _, _], _ => rfl) (fun _ => by kernel_rfl) (fun vs H Q E h => match vs, h with | [a0, a1, a2, a3], h => pure_l_spoilt h) ⟨He.free_ok X G (c.fact 44 (by rfl)), He.free_ok X G (c.fact 1 (by rfl)), ⟨1, by decide, fk_l_take X G c ce⟩, trivial⟩ trivial trivial (fun _ _ _ _ _ _ us hl => match us, hl with | [_, _, _, _], _ => rfl)
theorem fk_cut_strength (X : K.In h) (G : h.Ns mainGlobals mg) (c : He.SaysD fa fn K) (ce : exB K = true) : FnC P w K mg base "cut_strength" 5 (sp_cut_strength K) [] :=
  def_fn (N := ["web", "parts", "cutting", "one", "other", "strength"]) (ps := ["web", "parts", "cutting"]) (G := [("cut_ties", .fn (sp_cut_ties K) []), ("sum", .bl)]) (M := []) (Hs := []) (t := t_cut_strength K) (c.def_ 35 (d := d_cut_strength) (by rfl)) (He.glo_ok X G (c.fact 61 (by rfl))) (by decide +kernel) 60 (fun vs H Q E h => match vs, h with | [_, _, _], _ => rfl) (fun _ => by kernel_rfl) (fun vs H Q E h => match vs, h with | [a0, a1, a2], h => pure_cut_strength h) ⟨⟨4, by decide, fk_cut_ties X G c ce⟩, He.free_ok X G (c.fact 22 (by rfl)), trivial⟩ trivial trivial (fun _ _ _ _ _ _ us hl => match us, hl with | [_, _, _], _ => rfl)
theorem fk_apart_at (X : K.In h) (G : h.Ns mainGlobals mg) (c : He.SaysD fa fn K) (ce : exB K = true) : FnC P w K mg base "apart_at" 4 (sp_apart_at K) [] :=
  def_fn (N := ["web", "parts", "one", "other", "name"]) (ps := ["web", "parts", "one", "other"]) (G := [("need_cutting", .fn (sp_need_cutting K) [])]) (M := [("names", He.ga K "Web", sp_Web_names K, [])]) (Hs := []) (t := t_apart_at K) (c.def_ 36 (d := d_apart_at) (by rfl)) (He.glo_ok X G (c.fact 62 (by rfl))) (by decide +kernel) 60 (fun vs H Q E h => match vs, h with | [_, _, _, _], _ => rfl) (fun _ => by kernel_rfl) (fun vs H Q E h => match vs, h with | [a0, a1, a2, a3], h => pure_apart_at h) ⟨⟨3, by decide, fk_need_cutting X G c ce⟩, trivial⟩ ⟨⟨1, by decide, fk_Web_names X G c ce⟩, trivial⟩ trivial (fun _ _ _ _ _ _ us hl => match us, hl with | [_, _, _, _], _ => rfl)
theorem fk_orders_of (X : K.In h) (G : h.Ns mainGlobals mg) (c : He.SaysD fa fn K) (ce : exB K = true) : FnC P w K mg base "orders_of" 1 (sp_orders_of K) [] :=
  def_fn (N := ["many", "found", "turn", "longer", "order", "number"]) (ps := ["many"]) (G := [("range", .bl)]) (M := []) (Hs := []) (t := t_orders_of K) (c.def_ 37 (d := d_orders_of) (by rfl)) (He.glo_ok X G (c.fact 63 (by rfl))) (by decide +kernel) 60 (fun vs H Q E h => match vs, h with | [_], _ => rfl) (fun _ => by kernel_rfl) (fun vs H Q E h => match vs, h with | [a0], h => pure_orders_of h) ⟨He.free_ok X G (c.fact 6 (by rfl)), trivial⟩ trivial trivial (fun _ _ _ _ _ _ us hl => match us, hl with | [_], _ => rfl)
theorem fk_agreeing (X : K.In h) (G : h.Ns mainGlobals mg) (c : He.SaysD fa fn K) (ce : exB K = true) : FnC P w K mg base "agreeing" 1 (sp_agreeing K) [] :=
  def_fn (N := ["table", "order", "part", "number"]) (ps := ["table", "order"]) (G := [("enumerate", .bl), ("sum", .bl)]) (M := []) (Hs := []) (t := t_agreeing K) (c.def_ 38 (d := d_agreeing) (by rfl)) (He.glo_ok X G (c.fact 64 (by rfl))) (by decide +kernel) 60 (fun vs H Q E h => match vs, h with | [_, _], _ => rfl) (fun _ => by kernel_rfl) (fun vs H Q E h => match vs, h with | [a0, a1], h => pure_agreeing h) ⟨He.free_ok X G (c.fact 48 (by rfl)), He.free_ok X G (c.fact 22 (by rfl)), trivial⟩ trivial trivial (fun _ _ _ _ _ _ us hl => match us, hl with | [_, _], _ => rfl)
theorem fk_nearest (X : K.In h) (G : h.Ns mainGlobals mg) (c : He.SaysD fa fn K) (ce : exB K = true) : FnC P w K mg base "nearest" 4 (sp_nearest K) [] :=
  def_fn (N := ["web", "parts", "one", "other", "table", "name", "best", "most", "order", "found", "many", "part"]) (ps := ["web", "parts", "one", "other"]) (G := [("need_cutting", .fn (sp_need_cutting K) []), ("range", .bl), ("orders_of", .fn (sp_orders_of K) []), ("agreeing", .fn (sp_agreeing K) [])]) (M := [("names", He.ga K "Web", sp_Web_names K, [])]) (Hs := []) (t := t_nearest K) (c.def_ 39 (d := d_nearest) (by rfl)) (He.glo_ok X G (c.fact 65 (by rfl))) (by decide +kernel) 60 (fun vs H Q E h => match vs, h with | [_, _, _, _], _ => rfl) (fun _ => by kernel_rfl) (fun vs H Q E h => match vs, h with | [a0, a1, a2, a3], h => pure_nearest h) ⟨⟨3, by decide, fk_need_cutting X G c ce⟩, He.free_ok X G (c.fact 6 (by rfl)), ⟨1, by decide, fk_orders_of X G c ce⟩, ⟨1, by decide, fk_agreeing X G c ce⟩, trivial⟩ ⟨⟨1, by decide, fk_Web_names X G c ce⟩, trivial⟩ trivial (fun _ _ _ _ _ _ us hl => match us, hl with | [_, _, _, _], _ => rfl)
theorem fk_l_called (X : K.In h) (G : h.Ns mainGlobals mg) (c : He.SaysD fa fn K) (ce : exB K = true) : FnC P w K mg base "_law_called" 6 (sp_l_called K) [] :=
  def_fn (N := ["_law_web_here", "_law_parts", "_law_rule", "_law_good", "_law_thing", "_law_door"]) (ps := ["_law_web_here", "_law_parts", "_law_rule", "_law_good", "_law_thing", "_law_door"]) (G := [("cut_ties", .fn (sp_cut_ties K) []), ("cut_strength", .fn (sp_cut_strength K) []), ("part_weights", .fn (sp_part_weights K) []), ("part_names", .fn (sp_part_names K) []), ("between_parts", .fn (sp_between_parts K) []), ("first_beyond", .fn (sp_first_beyond K) []), ("numbered", .fn (sp_numbered K) []), ("apart_at", .fn (sp_apart_at K) []), ("nearest", .fn (sp_nearest K) [])]) (M := []) (Hs := []) (t := t_l_called K) (c.def_ 40 (d := d_l_called) (by rfl)) (He.glo_ok X G (c.fact 66 (by rfl))) (by decide +kernel) 60 (fun vs H Q E h => match vs, h with | [_, _, _, _, _, _], _ => rfl) (fun _ => by kernel_rfl) (fun vs H Q E h => match vs, h with | [a0, a1, a2, a3, a4, a5], h => pure_l_called h) ⟨⟨4, by decide, fk_cut_ties X G c ce⟩, ⟨5, by decide, fk_cut_strength X G c ce⟩, ⟨4, by decide, fk_part_weights X G c ce⟩, ⟨4, by decide, fk_part_names X G c ce⟩, ⟨5, by decide, fk_between_parts X G c ce⟩, ⟨5, by decide, fk_first_beyond X G c ce⟩, ⟨4, by decide, fk_numbered X G c ce⟩, ⟨4, by decide, fk_apart_at X G c ce⟩, ⟨4, by decide, fk_nearest X G c ce⟩, trivial⟩ trivial trivial (fun _ _ _ _ _ _ us hl => match us, hl with | [_, _, _, _, _, _], _ => rfl)
theorem fk_l_refused (X : K.In h) (G : h.Ns mainGlobals mg) (c : He.SaysD fa fn K) (ce : exB K = true) : FnC P w K mg base "_law_refused" 7 (sp_l_refused K) [] :=
  def_fn (N := ["_law_web_here", "_law_parts", "_law_rule", "_law_good", "_law_thing", "_law_door", "_law_found", "e"]) (ps := ["_law_web_here", "_law_parts", "_law_rule", "_law_good", "_law_thing", "_law_door"]) (G := [("CutError", .con (.ref (He.ga K "CutError"))), ("_law_called", .fn (sp_l_called K) []), ("ValueError", .bl), ("isinstance", .bl), ("NoPlace", .con (.ref (He.ga K "NoPlace"))), ("NoParts", .con (.ref (He.ga K "NoParts"))), ("NoCutting", .con (.ref (He.ga K "NoCutting"))), ("repr", .bl)]) (M := []) (Hs := []) (t := t_l_refused K) (c.def_ 41 (d := d_l_refused) (by rfl)) (He.glo_ok X G (c.fact 67 (by rfl))) (by decide +kernel) 60 (fun vs H Q E h => match vs, h with | [_, _, _, _, _, _], _ => rfl) (fun _ => by kernel_rfl) (fun vs H Q E h => match vs, h with | [a0, a1, a2, a3, a4, a5], h => pure_l_refused h) ⟨⟨_, He.glo_ok X G (c.fact 45 (by rfl)), rfl⟩, ⟨6, by decide, fk_l_called X G c ce⟩, He.free_ok X G (c.fact 68 (by rfl)), He.free_ok X G (c.fact 14 (by rfl)), ⟨_, He.glo_ok X G (c.fact 69 (by rfl)), rfl⟩, ⟨_, He.glo_ok X G (c.fact 70 (by rfl)), rfl⟩, ⟨_, He.glo_ok X G (c.fact 47 (by rfl)), rfl⟩, He.free_ok X G (c.fact 71 (by rfl)), trivial⟩ trivial trivial (fun _ _ _ _ _ _ us hl => match us, hl with | [_, _, _, _, _, _], _ => rfl)
theorem fk_law_ok (X : K.In h) (G : h.Ns mainGlobals mg) (c : He.SaysD fa fn K) (ce : exB K = true) {fd : FuncData} (F : FunD K d_law.name d_law.qual d_law.params d_law.body d_law.scope (d_law.dvs K) (d_law.kws K) (He.fAd K d_law.at_) fd) : FnOkG P w K mg base (L2N.CX P w) 8 (He.ga K "law") fd ["_law_script"] (sp_law K) :=
  def_ok (N := ["_law_script", "_law_k", "_law_purse_here", "_law_parts", "_law_rule", "_law_ahead", "_law_bad", "_law_thing", "_law_web_here", "_law_names_here", "_law_weights", "_law_ties", "_law_cutting_here", "_law_told", "_law_door", "_law_turn"]) (ps := ["_law_script"]) (G := [("range", .bl), ("len", .bl), ("min", .bl), ("max", .bl), ("_law_cell", .fn (sp_l_cell K) []), ("_law_purse", .fn (sp_l_purse K) []), ("_law_take", .fn (sp_l_take K) []), ("_law_web", .fn (sp_l_web K) []), ("_law_cutting", .fn (sp_l_cutting K) []), ("Rule", .cls (He.ga K "Rule") (sp_Rule_init K) []), ("_law_all", .fn (sp_l_all K) []), ("_law_spoilt", .fn (sp_l_spoilt K) []), ("_law_refused", .fn (sp_l_refused K) [])]) (M := []) (Hs := []) (t := t_law K) F (by decide +kernel) 60 (fun vs H Q E h => match vs, h with | [_], _ => rfl) (fun _ => by kernel_rfl) (fun vs H Q E h => match vs, h with | [a0], h => pure_law h) ⟨He.free_ok X G (c.fact 6 (by rfl)), He.free_ok X G (c.fact 1 (by rfl)), He.free_ok X G (c.fact 9 (by rfl)), He.free_ok X G (c.fact 3 (by rfl)), ⟨1, by decide, fk_l_cell X G c ce⟩, ⟨1, by decide, fk_l_purse X G c ce⟩, ⟨1, by decide, fk_l_take X G c ce⟩, ⟨4, by decide, fk_l_web X G c ce⟩, ⟨2, by decide, fk_l_cutting X G c ce⟩, ⟨2, by decide, fk_Rule_init X G c ce⟩, ⟨6, by decide, fk_l_all X G c ce⟩, ⟨2, by decide, fk_l_spoilt X G c ce⟩, ⟨7, by decide, fk_l_refused X G c ce⟩, trivial⟩ trivial trivial
theorem facts {f : Addr} (X : K.In h) (G : h.Ns mainGlobals mg) (hfa : mg ("law" : Str) = some (.ref f)) (c : He.SaysD fa fn K) (ce : exB K = true) :
    ∃ fd : FuncData, (∀ (s : Shared) (v : Value), BindsTo s fd ⟨[v], []⟩ [("_law_script", v)]) ∧ ∀ base : Heap, K.In base → base.Ns mainGlobals mg → FnOkG P w K mg base (L2N.CX P w) 8 f fd ["_law_script"] (sp_law K) := by
  obtain ⟨fd, F⟩ := c.def_ 42 (d := d_law) (by rfl)
  have e := hfa.symm.trans (He.glo_ok X G (c.fact 72 (f := .glo "law") (by rfl)))
  cases e
  have b := FunD.bindsA (ps := ["_law_script"]) F fun _ _ _ _ _ _ us hl => match us, hl with | [_], _ => rfl
  exact ⟨fd, fun s v => b s [v] rfl, fun base _ _ => fk_law_ok X G c ce F⟩
end
abbrev R : PySem.W.OpenRow := PySem.W.OpenLaw.row PySem.Challenge.rw_evencut_k27_no_cuttings_at_any_door
/-- what the run looks at: three steps from the names, and the functions' own code -/
def runC (o : Obj) : List Addr := match o.data with
  | .func _ => He.refsD o
  | _ => []
def runG (g : Addr → Option Obj) (as : List Addr) (r : Obj → List Addr) : List Addr := as ++ as.flatMap fun a => match g a with
  | some o => r o
  | none => []
def runL (g : Addr → Option Obj) : List Addr := runG g (runG g (asY g 2) He.refsD) runC
def runO (g : Addr → Option Obj) : AlY := (He.obsD fa fn (He.frG g (runL g)), exB (He.frG g (runL g)))
abbrev hk : PySem.W.Hook where
  α := AlY
  obs := fun s => runO s.heap.get?
  val := fun _ => valY fn
  says := fun _ h => ∃ K : PySem.W.Frag, K.In h ∧ SaysY fa fn exB K
  of := fun _ _ e => ⟨_, He.frG_in, congrArg (fun z : AlY => z.1) e, congrArg (fun z : AlY => z.2) e⟩
  keeps := fun _ _ _ ⟨K, hK, c⟩ k => ⟨K, PySem.W.Frag.In.keeps hK k, c⟩
def ob (s : PySem.W.SharedT) : AlY := runO (HandSHeadRun.getT s)
theorem ob_eq (s : PySem.W.SharedT) : ob s = hk.obs s.abs := by
  show runO (HandSHeadRun.getT s) = runO s.abs.heap.get?
  rw [show HandSHeadRun.getT s = s.abs.heap.get? from funext (HandSHeadRun.getT_eq s)]
def loose : List PySem.Str := (["_wall", "CutError", "NoName", "NoWeight", "NoStrength", "NoPlace", "NoTie", "Same", "Taken", "Tied", "TooMany", "Beyond", "NoParts", "NoBound", "NoCutting", "LETTERS", "LONGEST_NAME", "is_whole", "is_name", "fault_of", "need_cutting", "cut_ties", "cut_strength", "part_weights", "part_names", "between_parts", "first_beyond", "numbered", "apart_at", "orders_of"] : List PySem.Str) ++ (["agreeing", "nearest", "LEAST_PARTS", "MOST_PARTS", "GREATEST_BOUND", "Rule", "MOST_PLACES", "MOST_TIES", "MOST", "Web", "_law_cell", "_law_purse", "_law_take", "_law_names", "_law_size", "_law_pairs", "_law_web", "_law_cutting", "_law_spoilt", "_law_called", "_law_refused", "_law_all"] : List PySem.Str)
def STEPS : Nat := 12000
theorem runJ {α β γ δ : Type} {o : Option α} {f : α → β} {g : α → γ} {h : α → δ} {a : β} {b : γ} {c : δ} (h1 : o.map (fun s => (f s, g s)) = some (a, b)) (h3 : o.map h = some c) : o.map (fun s => (f s, g s, h s)) = some (a, b, c) := by
  cases o with
  | none => cases h1
  | some s =>
    have e1 : (f s, g s) = (a, b) := Option.some.inj h1
    have e3 : h s = c := Option.some.inj h3
    have e4 : f s = a := congrArg Prod.fst e1
    have e5 : g s = b := congrArg Prod.snd e1
    show some (f s, g s, h s) = _
    rw [e4, e5, e3]
theorem run1 (w : World) (os : OsState) : (HandSHeadRun.endF (HandSHeadRun.stepQ (HandSHeadRun.denQ HandSHeadRun.tabQ) R.prog w) STEPS R.prog w os).map (fun s => (HandSHeadRun.looksF R.prog (PySem.W.boot_heap w.params) s.abs, HandSHeadRun.seenQ (PySem.W.view R.prog [58]) loose (importedModules R.prog.main.body) (fun s => PySem.W.xlAt (PySem.W.view R.prog [58]) [] s && PySem.W.recOk R.toRowW.records s) s.abs)) = some (true, PySem.W.openGood (PySem.W.view R.prog [58]) loose) := by kernel_rfl
theorem run2 (w : World) (os : OsState) : (HandSHeadRun.endF (HandSHeadRun.stepQ (HandSHeadRun.denQ HandSHeadRun.tabQ) R.prog w) STEPS R.prog w os).map ob = some (valY fn) := by kernel_rfl
theorem run (w : World) : HandSHeadRun.RunEq R (PySem.W.view R.prog [58]) hk ob STEPS loose w := fun os => runJ (run1 w os) (run2 w os)
end Wk27
open PySem PySem.W PySem.Calls PyProof.Rows
set_option maxHeartbeats 0 in
theorem PySem.Challenge.cw_evencut_k27_no_cuttings_at_any_door_holds : PySem.Challenge.rw_evencut_k27_no_cuttings_at_any_door.Holds := by
  w_on; o_law
  refine HandSHeadRun.head_any (r := OpenLaw.row PySem.Challenge.rw_evencut_k27_no_cuttings_at_any_door) (q := view (OpenLaw.row PySem.Challenge.rw_evencut_k27_no_cuttings_at_any_door).prog [58]) (H := Wk27.hk) (ob := Wk27.ob) (M := Wk27.STEPS) (loose := Wk27.loose) (d := HandSHeadRun.topDef (OpenLaw.row PySem.Challenge.rw_evencut_k27_no_cuttings_at_any_door).prog 58) (kwd := []) Wk27.ob_eq
    (by kernel_rfl) (fun s => by kernel_rfl) Wk27.run (by kernel_rfl) (by kernel_rfl) (by kernel_rfl) (by rfl) (by first | assumption | decide +kernel) (by decide +kernel) ⟨rfl, rfl, rfl, rfl, rfl, by decide +kernel⟩ ?hw ?hc
  case hw => w_witness2
  case hc =>
    refine Rf.walk_ofW (l := PySem.Challenge.rw_evencut_k27_no_cuttings_at_any_door) (n := 63) (k := 8) (x := "_law_script") rfl (by decide) (by kernel_rfl) ⟨rfl, by decide, by decide⟩ ?F
    intro w mg fa h Y G hmg0
    obtain ⟨K, KX, cx⟩ := Y
    have c := cx.d
    have ce := cx.more
    have hmg : mg ("law" : PySem.Str) = some (.ref fa) := by
      have e : (HandSHeadRun.topDef (OpenLaw.row PySem.Challenge.rw_evencut_k27_no_cuttings_at_any_door).prog 58).name = ("law" : PySem.Str) := by kernel_rfl
      rw [← e]
      exact hmg0
    obtain ⟨fd, hb, hF⟩ := Wk27.facts (P := (PySem.Challenge.rw_evencut_k27_no_cuttings_at_any_door).prog) (w := w) KX G hmg c ce
    exact ⟨K, fd, Wk27.sp_law K, KX, hb, fun H a ns hl _ hS => ⟨Rf.errB_ok (Wk27.ex_at ce 0 (by rfl)), ⟨He.cls_ok (c.fact 10 (by rfl)), He.noat_ok (c.fact 75 (by rfl)), He.noat_ok (c.fact 76 (by rfl))⟩, ⟨He.cls_ok (c.fact 41 (by rfl)), He.noat_ok (c.fact 77 (by rfl)), He.noat_ok (c.fact 78 (by rfl)), He.noat_ok (c.fact 79 (by rfl))⟩, a, ns, rfl, hS, hl, fun _ => rfl⟩, hF⟩
