import PyProof.Rows.All
import Wide.All
import OpenK.AllK
import Wide.FinOn
import PySem.Challenge.RW_cellsenough_k23_near_numbers_and_rings
import HandS.ForMost
import HandS.Flow
import KE.KDictWalk
import KE.KDictKeyed
import HandS.DictComp
import HandS.ListItems
import KE.KDictItemsList
import KE.KDictIter
import KE.SortData
import HandS.Deep
import HandS.TupAny
import HandS.IsInst
import HandS.Walk
import PyProof.NeKinds
import PyProof.Rows.RuleB_pow
import KE.GoesEnum
import HandS.Iter
import PyProof.ReprRoads
import PyProof.CallFns
import HandS.TupMul
import PyProof.ReprLen
import PyProof.ReprBulk
import HandS.Style
set_option Elab.async false
set_option linter.all false
set_option maxRecDepth 100000
/-! Dicts whose keys are ints, texts, and tuples of these, together: look-ups and stores at the model's level. -/
namespace Mk
open PySem PySem.Spec PyProof.Rows L2

/-- a key: an int or a text; a tuple of such -/
abbrev PK := Sum Key (List Key)
section
variable (P : Program) (w : World)
/-- the value v is the key -/
def isP (h : Heap) : PK → Value → Prop
  | .inl k, v => keyIs k v = true
  | .inr ks, v => ∃ a, v = .ref a ∧ IsTupleKey (mixKind P w) h ks a
def hashP : PK → Int
  | .inl k => keyH w k
  | .inr ks => tupleKeyHash (mixKind P w) ks
def drawsP : PK → Nat
  | .inl _ => 1
  | .inr ks => ks.length + 1
end
section
variable {P : Program} {w : World} {h h' : Heap} {k k' : PK} {v : Value}
theorem key_val : ∀ {j : Key} {u : Value}, keyIs j u = true → carriedByValue u = true
  | .inl _, _, e => by
    obtain ⟨t, e⟩ := Value.isInt_shape e
    subst e
    rfl
  | .inr _, _, e => by
    obtain ⟨t, e⟩ := Value.isStrOf_shape e
    subst e
    rfl
theorem isP_inj (a : isP P w h k v) (b : isP P w h k' v) : k = k' := by
  cases k with
  | inl j => cases k' with
    | inl j' => rw [(mixKind P w).inj v j j' a b]
    | inr ks =>
      obtain ⟨x, rfl, _⟩ := b
      exact absurd (key_val a) Bool.false_ne_true
  | inr ks =>
    obtain ⟨x, rfl, t⟩ := a
    cases k' with
    | inl j' => exact absurd (key_val b) Bool.false_ne_true
    | inr ks' =>
      obtain ⟨y, e, t'⟩ := b
      cases e
      rw [t.inj t']
theorem isP_keeps {d : Addr} {o : Obj} {es ep} (a : isP P w h k v) (ho : h.get? d = some o) (hd : o.data = .dict es ep) (hs : Heap.SameBut d h h') : isP P w h' k v := by
  cases k with
  | inl j => exact a
  | inr ks =>
    obtain ⟨x, e, t⟩ := a
    exact ⟨x, e, t.keeps ho hd hs⟩
/-- kept where all sequences are kept -/
theorem isP_kept (a : isP P w h k v) (hk : ∀ b o vs n, h.get? b = some o → o.data = .seq vs n → h'.get? b = some o) : isP P w h' k v := by
  cases k with
  | inl j => exact a
  | inr ks =>
    obtain ⟨x, e, o, its, n, h1, h2, h3, h4⟩ := a
    exact ⟨x, e, o, its, n, hk _ _ _ _ h1 h3, h2, h3, h4⟩
theorem isP_str {x : Str} {t : Tok} (a : isP P w h k (.str x t)) (b : isP P w h k' v) : v.isStr x = decide (k' = k) := by
  cases k with
  | inr ks => obtain ⟨_, e, _⟩ := a; cases e
  | inl j =>
    rcases keyIs_shape (show keyIs j (.str x t) = true from a) with ⟨i, tk, e1, e2⟩ | ⟨y, tk, e1, e2⟩
    · cases e2
    · cases e2
      subst e1
      cases k' with
      | inr ks =>
        obtain ⟨z, e, _⟩ := b
        subst e
        rw [decide_eq_false (fun q => nomatch q)]
        rfl
      | inl j' =>
        rcases keyIs_shape (show keyIs j' v = true from b) with ⟨i, tk, e1, e2⟩ | ⟨z, tk, e1, e2⟩
        · subst e1 e2
          rw [decide_eq_false (fun q => nomatch q)]
          rfl
        · subst e1 e2
          by_cases q : z = x
          · subst q
            rw [decide_eq_true rfl]
            simp [Value.isStr]
          · rw [decide_eq_false (fun z' => q (by injection z' with z'; injection z'))]
            simp [Value.isStr, q]
end

section
variable {P : Program} {w : World} {A : Around} {E : Value → Shared → Prop} {s : Shared} {k k' : PK} {u v : Value}
theorem hash_P {Q : Int → Shared → Prop} (hu : A.units < cLine) (hk : isP P w s.heap k v) (hq : Q (hashP P w k) { s with toks := s.toks + drawsP k }) : wpAny (model P w) A (pyHash v) Q E s := by
  cases k with
  | inl j => exact (mixKind P w).pyHash (k := j) hk hq
  | inr ks =>
    obtain ⟨a, e, t⟩ := hk
    subst e
    exact wpAny_pyHash_tuple hu t hq
theorem tup_is {ks : List Key} {a : Addr} (t : IsTupleKey (mixKind P w) s.heap ks a) : ∃ its, s.heap.IsTuple a its := by
  obtain ⟨o, its, n, h1, h2, h3, _⟩ := t
  exact ⟨its, o, h1, h2, n, h3⟩
theorem eq_P {Q : Bool → Shared → Prop} (hu : A.units < cLine) (h1 : isP P w s.heap k u) (h2 : isP P w s.heap k' v) (hq : Q (decide (k = k')) s) : wpAny (model P w) A (eqBool u v) Q E s := by
  cases k with
  | inl j =>
    cases k' with
    | inl j' =>
      refine (mixKind P w).eqBool (a := j) (b := j') h1 h2 ?_
      have e : decide (j = j') = decide ((Sum.inl j : PK) = .inl j') := by
        by_cases q : j = j'
        · rw [decide_eq_true q, decide_eq_true (by rw [q])]
        · rw [decide_eq_false q, decide_eq_false (fun z => q (by injection z))]
      rw [e]
      exact hq
    | inr ks =>
      obtain ⟨a, e, t⟩ := h2
      subst e
      obtain ⟨its, ht⟩ := tup_is t
      rw [decide_eq_false (fun q => nomatch q)] at hq
      rcases keyIs_shape h1 with ⟨i, tk, e1, e2⟩ | ⟨x, tk, e1, e2⟩
      · subst e2
        exact SeqAt.EqAt.int_tuple i tk ht hu _ _ _ _ hq
      · subst e2
        exact SeqAt.EqAt.str_tuple x tk ht hu _ _ _ _ hq
  | inr ks =>
    obtain ⟨a, e, t⟩ := h1
    subst e
    cases k' with
    | inl j' =>
      obtain ⟨its, ht⟩ := tup_is t
      rw [decide_eq_false (fun q => nomatch q)] at hq
      rcases keyIs_shape h2 with ⟨i, tk, e1, e2⟩ | ⟨x, tk, e1, e2⟩
      · subst e2
        exact SeqAt.EqAt.tuple_int i tk ht hu _ _ _ _ hq
      · subst e2
        exact SeqAt.EqAt.tuple_str x tk ht hu _ _ _ _ hq
    | inr ks' =>
      obtain ⟨b, e, t'⟩ := h2
      subst e
      refine wpAny_eqBool_tuple hu t t' ?_
      have e : decide (ks = ks') = decide ((Sum.inr ks : PK) = .inr ks') := by
        by_cases q : ks = ks'
        · rw [decide_eq_true q, decide_eq_true (by rw [q])]
        · rw [decide_eq_false q, decide_eq_false (fun z => q (by injection z))]
      rw [e]
      exact hq
theorem quiet_P {Q : Bool → Shared → Prop} (hk : isP P w s.heap k v) (hq : Q true s) : wpAny (model P w) A (eqIsQuiet 8 v) Q E s := by
  cases k with
  | inl j =>
    rw [eqIsQuiet_byValue 8 (key_val hk)]
    exact wpAny_pure hq
  | inr ks =>
    obtain ⟨a, e, t⟩ := hk
    subst e
    exact wpAny_eqIsQuiet_tuple t hq
/-- no key of these has a telling == -/
theorem quiet_table {key : Value} {stored : List Value} {Q : Bool → Shared → Prop} (hk : isP P w s.heap k key) (hst : ∀ v ∈ stored, ∃ k', isP P w s.heap k' v) (hq : Q false s) :
    wpAny (model P w) A (tableMayTell key stored) Q E s := by
  unfold tableMayTell
  split
  · exact wpAny_pure hq
  · refine wpAny_bind (quiet_P hk ?_)
    rw [if_neg (by decide)]
    refine wpAny_bind (wpAny_forIn_list _ (fun rest r s' => s' = s ∧ r = (none, ()) ∧ ∀ v ∈ rest, ∃ k', isP P w s.heap k' v) _ ?_ ?_ _ _ ⟨rfl, rfl, hst⟩)
    · intro x rest r s' ⟨e1, e2, hr⟩
      subst e1 e2
      obtain ⟨k', hx⟩ := hr x List.mem_cons_self
      refine wpAny_bind (quiet_P hx ?_)
      rw [if_neg (by decide)]
      exact wpAny_pure ⟨rfl, rfl, fun v hv => hr v (List.mem_cons_of_mem _ hv)⟩
    · intro r s' ⟨e1, e2, _⟩
      subst e1 e2
      exact wpAny_pure hq
end
end Mk


set_option Elab.async false
set_option linter.all false
set_option maxRecDepth 100000
/-! look-ups and stores of such dicts, at the model's level -/
namespace Mk
open PySem PySem.Spec PyProof.Rows L2

/-- an entry: its key, the key's value, what it holds -/
abbrev En := PK × Value × Value
def entP (P : Program) (w : World) (x : En) : DictEntry := ⟨hashP P w x.1, x.2.1, x.2.2⟩
/-- at d stands a dict with these entries -/
def DOf (P : Program) (w : World) (h : Heap) (d : Addr) (xs : List En) : Prop :=
  ∃ o es ep, h.get? d = some o ∧ o.ExactDict ∧ o.data = .dict es ep ∧ es.toList = xs.map (entP P w) ∧ (∀ x ∈ xs, isP P w h x.1 x.2.1) ∧ (xs.map (·.1)).Nodup
def lookE (xs : List En) (k : PK) : Option Value := (xs.find? fun x => decide (x.1 = k)).map (·.2.2)
def putE (xs : List En) (k : PK) (u v : Value) : List En :=
  if (lookE xs k).isSome = true then xs.map (fun x => if x.1 = k then (x.1, x.2.1, v) else x) else xs ++ [(k, u, v)]

theorem lookE_of {xs : List En} (hn : (xs.map (·.1)).Nodup) {j : Nat} {x : En} (hx : xs[j]? = some x) : lookE xs x.1 = some x.2.2 := by
  induction xs generalizing j with
  | nil => simp at hx
  | cons y r ih =>
    rw [List.map_cons, List.nodup_cons] at hn
    cases j with
    | zero =>
      have e : y = x := by simpa using hx
      subst e
      simp [lookE]
    | succ i =>
      have hx' : r[i]? = some x := by simpa using hx
      have hne : ¬ y.1 = x.1 := fun e => hn.1 (e ▸ List.mem_map_of_mem (List.mem_of_getElem? hx'))
      have q := ih hn.2 hx'
      simpa [lookE, List.find?_cons, hne] using q
theorem lookE_none {xs : List En} {k : PK} (hno : ∀ (j : Nat) (x : En), xs[j]? = some x → x.1 ≠ k) : lookE xs k = none := by
  have e : (xs.find? fun x => decide (x.1 = k)) = none := by
    rw [List.find?_eq_none]
    intro x hx hk
    obtain ⟨j, hj⟩ := List.mem_iff_getElem?.mp hx
    exact hno j x hj (of_decide_eq_true hk)
  simp [lookE, e]
theorem one_place {xs : List En} (hn : (xs.map (·.1)).Nodup) {i j : Nat} {x y : En} (hx : xs[i]? = some x) (hy : xs[j]? = some y) (e : x.1 = y.1) : i = j := by
  have hi : (xs.map (·.1))[i]? = some x.1 := by rw [List.getElem?_map, hx]; rfl
  have hj : (xs.map (·.1))[j]? = some x.1 := by rw [List.getElem?_map, hy, e]; rfl
  exact (List.getElem?_inj (List.getElem?_eq_some_iff.mp hi).1 hn).mp (hi.trans hj.symm)

section
variable {P : Program} {w : World} {A : Around} {E : Value → Shared → Prop} {s : Shared} {k : PK} {key : Value} {d : Addr} {o : Obj} {es : Array DictEntry} {ep : Nat} {xs : List En}

theorem ent_get (he : es.toList = xs.map (entP P w)) (j : Nat) : es[j]? = (xs[j]?).map (entP P w) := by
  rw [← Array.getElem?_toList, he, List.getElem?_map]
theorem ent_mem (he : es.toList = xs.map (entP P w)) {e : DictEntry} (h : e ∈ es) : ∃ x ∈ xs, e = entP P w x := by
  have q : e ∈ xs.map (entP P w) := he ▸ Array.mem_toList_iff.mpr h
  obtain ⟨x, hx, e'⟩ := List.mem_map.mp q
  exact ⟨x, hx, e'.symm⟩
/-- the places whose hash is the key's: no place twice, and the key's among them -/
theorem places_ok (he : es.toList = xs.map (entP P w)) : (placesWithHash es.size (fun i => es[i]?.map (·.hash)) (hashP P w k)).Nodup ∧
    (∀ i ∈ placesWithHash es.size (fun i => es[i]?.map (·.hash)) (hashP P w k), ∃ x, xs[i]? = some x ∧ hashP P w x.1 = hashP P w k) ∧
    ∀ (j : Nat) (x : En), xs[j]? = some x → x.1 = k → j ∈ placesWithHash es.size (fun i => es[i]?.map (·.hash)) (hashP P w k) := by
  unfold placesWithHash
  refine ⟨List.nodup_range.sublist List.filter_sublist, fun i hi => ?_, fun j x hj e => ?_⟩
  · obtain ⟨h1, h2⟩ := List.mem_filter.mp hi
    have h2' := eq_of_beq h2
    dsimp only at h2'
    rw [ent_get he] at h2'
    cases q : xs[i]? with
    | none => rw [q] at h2'; cases h2'
    | some x =>
      rw [q] at h2'
      exact ⟨x, rfl, Option.some.inj h2'⟩
  · refine List.mem_filter.mpr ⟨List.mem_range.mpr ?_, ?_⟩
    · have hl := (List.getElem?_eq_some_iff.mp hj).1
      have : es.size = xs.length := by rw [← Array.length_toList, he, List.length_map]
      omega
    · dsimp only
      rw [ent_get he, hj, ← e]
      simp [entP]
theorem find_P {Q : Option Nat → Shared → Prop} (hu : A.units < cLine) (hk : isP P w s.heap k key) (ho : s.heap.get? d = some o) (hd : o.data = .dict es ep) (he : es.toList = xs.map (entP P w))
    (his : ∀ x ∈ xs, isP P w s.heap x.1 x.2.1) (hn : (xs.map (·.1)).Nodup) (hno : (∀ (j : Nat) (x : En), xs[j]? = some x → x.1 ≠ k) → Q none s) (hyes : ∀ (j : Nat) (x : En), xs[j]? = some x → x.1 = k → Q (some j) s) :
    wpAny (model P w) A (dictFind d key (hashP P w k)) Q E s := by
  obtain ⟨pn, pm, pa⟩ := places_ok (k := k) he
  unfold dictFind
  try with_reducible refine wpAny_holding ?_
  refine wpAny_bind (wpAny_dictEntries ho hd ?_)
  dsimp only
  -- what stands at a place
  have at_ : ∀ {i : Nat} {x : En}, xs[i]? = some x → es[i]? = some ⟨hashP P w x.1, x.2.1, x.2.2⟩ := fun {i x} hx => by
    rw [ent_get he, hx]
    rfl
  -- the plain walk
  have plain : wpAny (model P w) A (dictWalkPlain d key (hashP P w k) es (placesWithHash es.size (fun i => es[i]?.map (·.hash)) (hashP P w k))) Q E s := by
    unfold dictWalkPlain
    refine wpAny_bind (wpAny_forIn_list _ (fun rest b s' => s' = s ∧ b = (none, ()) ∧ (∀ i ∈ rest, ∃ x, xs[i]? = some x ∧ hashP P w x.1 = hashP P w k) ∧ ∀ (j : Nat) (x : En), xs[j]? = some x → x.1 = k → j ∈ rest) _ ?_ ?_ _ _ ⟨rfl, rfl, pm, pa⟩)
    · intro i rest b s' ⟨e1, e2, h3, h4⟩
      subst e1 e2
      obtain ⟨x, hx, hh⟩ := h3 i List.mem_cons_self
      rw [at_ hx]
      dsimp only
      rw [if_pos (beq_iff_eq.mpr hh)]
      refine wpAny_bind (wpAny_dictEpoch ho hd (wpAny_bind (eq_P hu (his x (List.mem_of_getElem? hx)) hk (wpAny_bind (wpAny_dictEpoch ho hd ?_)))))
      show wpAny _ _ (if (ep != ep) = true then _ else _) _ E _
      rw [if_neg (by simp)]
      by_cases q : x.1 = k
      · rw [decide_eq_true q]
        exact wpAny_bind (wpAny_rule (wpAny_pure (wpAny_pure (hyes i x hx q))))
      · rw [decide_eq_false q]
        refine wpAny_bind (wpAny_rule (wpAny_pure ⟨rfl, rfl, fun j hj => h3 j (List.mem_cons_of_mem _ hj), fun j y hy e => ?_⟩))
        rcases List.mem_cons.mp (h4 j y hy e) with z | z
        · subst z
          rw [hx] at hy
          cases hy
          exact absurd e q
        · exact z
    · intro b s' ⟨e1, e2, _, h4⟩
      subst e1 e2
      exact wpAny_pure (hno fun j x hj e => by simpa using h4 j x hj e)
  have hany : ¬ (es.any fun e => e.key == key && e.hash != hashP P w k) = true := by
    rw [← Array.any_toList, List.any_eq_true]
    intro ⟨e, hin, hc⟩
    obtain ⟨x, hx, e1⟩ := ent_mem he (Array.mem_toList_iff.mp hin)
    subst e1
    rw [Bool.and_eq_true] at hc
    obtain ⟨h1, h2⟩ := hc
    have h1' : x.2.1 = key := eq_of_beq h1
    have q := his x hx
    rw [h1'] at q
    have := isP_inj q hk
    rw [entP, this] at h2
    simp at h2
  have hst : ∀ v ∈ (placesWithHash es.size (fun i => es[i]?.map (·.hash)) (hashP P w k)).filterMap (fun i => es[i]?.map (·.key)), ∃ k', isP P w s.heap k' v := by
    intro v hv
    obtain ⟨i, hi, e⟩ := List.mem_filterMap.mp hv
    obtain ⟨x, hx, _⟩ := pm i hi
    rw [at_ hx] at e
    have e' : x.2.1 = v := Option.some.inj e
    exact ⟨x.1, e' ▸ his x (List.mem_of_getElem? hx)⟩
  have byv : ∀ {x : Str} {t : Tok}, key = .str x t → wpAny (model P w) A (foundByValue d key es x) Q E s := by
    intro x t ek
    have hf : ∀ y ∈ xs, (entP P w y).key.isStr x = decide (y.1 = k) := fun y hy => isP_str (ek ▸ hk) (his y hy)
    unfold foundByValue
    cases q : es.findIdx? (fun e => e.key.isStr x) with
    | none =>
      refine wpAny_pure (hno fun j y hj e => ?_)
      have m : entP P w y ∈ es := Array.mem_of_getElem? (at_ hj)
      have r := Array.findIdx?_eq_none_iff.mp q _ m
      rw [hf y (List.mem_of_getElem? hj), decide_eq_true e] at r
      cases r
    | some i =>
      obtain ⟨hl, hi, _⟩ := Array.findIdx?_eq_some_iff_getElem.mp q
      have hx : ∃ y, xs[i]? = some y := by
        have z : es[i]? = some es[i] := Array.getElem?_eq_getElem hl
        rw [ent_get he] at z
        cases y : xs[i]? with
        | none => rw [y] at z; cases z
        | some y' => exact ⟨y', rfl⟩
      obtain ⟨y, hy⟩ := hx
      have e1 : es[i] = entP P w y := Option.some.inj ((Array.getElem?_eq_getElem hl).symm.trans (at_ hy))
      rw [e1, hf y (List.mem_of_getElem? hy)] at hi
      have e2 : y.1 = k := of_decide_eq_true hi
      dsimp only
      rw [at_ hy]
      dsimp only
      refine wpAny_bind (wpAny_dictEpoch ho hd (wpAny_bind (eq_P hu (his y (List.mem_of_getElem? hy)) hk (wpAny_bind (wpAny_dictEpoch ho hd ?_)))))
      show wpAny _ _ (if (ep != ep) = true then _ else _) _ E _
      rw [if_neg (by simp), decide_eq_true e2]
      exact wpAny_bind (wpAny_rule (wpAny_pure (hyes i y hy e2)))
  have shp : (∃ a, key = .ref a) ∨ (∃ i t, key = .int i t) ∨ ∃ x t, key = .str x t := by
    cases k with
    | inr ks =>
      obtain ⟨a, e, _⟩ := hk
      exact .inl ⟨a, e⟩
    | inl j =>
      rcases keyIs_shape (show keyIs j key = true from hk) with ⟨i, t, _, e⟩ | ⟨x, t, _, e⟩
      · exact .inr (.inl ⟨i, t, e⟩)
      · exact .inr (.inr ⟨x, t, e⟩)
  by_cases hall : ((key :: (placesWithHash es.size (fun i => es[i]?.map (·.hash)) (hashP P w k)).filterMap fun i => es[i]?.map (·.key)).all carriedByValue) = true
  · rcases shp with ⟨a, e⟩ | ⟨i, t, e⟩ | ⟨x, t, e⟩
    · subst e
      rw [if_pos hall]
      exact plain
    · subst e
      dsimp only
      rw [if_pos hall]
      exact plain
    · subst e
      dsimp only
      by_cases hs : (es.all fun e => isExactStrKey e.key) = true
      · rw [if_pos hs]
        exact byv rfl
      · rw [if_neg hs]
        rw [if_pos hall]
        exact plain
  · rcases shp with ⟨a, e⟩ | ⟨i, t, e⟩ | ⟨x, t, e⟩
    · subst e
      dsimp only
      rw [if_neg hall, if_neg hany]
      by_cases h1 : (((placesWithHash es.size (fun i => es[i]?.map (·.hash)) (hashP P w k)).filterMap fun i => es[i]?.map (·.key)) == [Value.ref a]) = true <;>
      (first | rw [if_pos h1] | rw [if_neg h1]) <;> (first | refine wpAny_bind (wpAny_pure ?_) | refine wpAny_bind (quiet_table hk hst ?_)) <;>
      (rw [if_neg (by simp)]
       refine wpAny_bind (wpAny_forIn_list _ (fun rest b s' => s' = s ∧ ∃ hit, b = (none, hit) ∧ rest.Nodup ∧ (∀ i ∈ rest, ∃ x, xs[i]? = some x ∧ hashP P w x.1 = hashP P w k) ∧
         ((hit = none ∧ ∀ (j : Nat) (x : En), xs[j]? = some x → x.1 = k → j ∈ rest) ∨ ∃ j x, hit = some j ∧ xs[j]? = some x ∧ x.1 = k ∧ j ∉ rest)) _ ?_ ?_ _ _ ⟨rfl, none, rfl, pn, pm, .inl ⟨rfl, pa⟩⟩)
       · intro i rest b s' ⟨e1, hit, e2, h2, h3, h4⟩
         subst e1 e2
         rw [List.nodup_cons] at h2
         obtain ⟨x, hx, hh⟩ := h3 i List.mem_cons_self
         have h3' : ∀ i ∈ rest, ∃ x, xs[i]? = some x ∧ hashP P w x.1 = hashP P w k := fun j hj => h3 j (List.mem_cons_of_mem _ hj)
         rw [at_ hx]
         dsimp only
         rw [if_pos (beq_iff_eq.mpr hh)]
         refine wpAny_bind (wpAny_dictEpoch ho hd (wpAny_bind (eq_P hu (his x (List.mem_of_getElem? hx)) hk (wpAny_bind (wpAny_dictEpoch ho hd ?_)))))
         show wpAny _ _ (if (ep != ep) = true then _ else _) _ E _
         rw [if_neg (by simp)]
         by_cases q : x.1 = k
         · rw [decide_eq_true q, if_pos rfl]
           rcases h4 with ⟨e1, h4⟩ | ⟨j, y, e1, hy, ey, hj⟩
           · subst e1
             rw [if_neg (by simp)]
             refine wpAny_bind (wpAny_rule ?_)
             split
             · exact wpAny_pure (wpAny_pure (hyes i x hx q))
             · exact wpAny_pure ⟨rfl, some i, rfl, h2.2, h3', .inr ⟨i, x, rfl, hx, q, h2.1⟩⟩
           · have z : i = j := one_place hn hx hy (q.trans ey.symm)
             exact absurd (z ▸ List.mem_cons_self) hj
         · rw [decide_eq_false q, if_neg (by decide)]
           refine wpAny_bind (wpAny_rule ?_)
           rw [if_neg (by simp)]
           refine wpAny_pure ⟨rfl, hit, rfl, h2.2, h3', ?_⟩
           rcases h4 with ⟨e1, h4⟩ | ⟨j, y, e1, hy, ey, hj⟩
           · refine .inl ⟨e1, fun j y hy ey => ?_⟩
             rcases List.mem_cons.mp (h4 j y hy ey) with z | z
             · subst z
               rw [hx] at hy
               cases hy
               exact absurd ey q
             · exact z
           · exact .inr ⟨j, y, e1, hy, ey, fun z => hj (List.mem_cons_of_mem _ z)⟩
       · intro b s' ⟨e1, hit, e2, _, _, h4⟩
         subst e1 e2
         rcases h4 with ⟨e1, h4⟩ | ⟨j, y, e1, hy, ey, _⟩
         · subst e1
           exact wpAny_pure (hno fun j x hj e => by simpa using h4 j x hj e)
         · subst e1
           exact wpAny_pure (hyes j y hy ey))
    · subst e
      dsimp only
      rw [if_neg hall]
      by_cases h1 : (((placesWithHash es.size (fun i => es[i]?.map (·.hash)) (hashP P w k)).filterMap fun i => es[i]?.map (·.key)) == [Value.int i t]) = true <;>
      (first | rw [if_pos h1] | rw [if_neg h1]) <;> (first | refine wpAny_bind (wpAny_pure ?_) | refine wpAny_bind (quiet_table hk hst ?_)) <;>
      (rw [if_neg (by simp)]
       refine wpAny_bind (wpAny_forIn_list _ (fun rest b s' => s' = s ∧ ∃ hit, b = (none, hit) ∧ rest.Nodup ∧ (∀ i ∈ rest, ∃ x, xs[i]? = some x ∧ hashP P w x.1 = hashP P w k) ∧
         ((hit = none ∧ ∀ (j : Nat) (x : En), xs[j]? = some x → x.1 = k → j ∈ rest) ∨ ∃ j x, hit = some j ∧ xs[j]? = some x ∧ x.1 = k ∧ j ∉ rest)) _ ?_ ?_ _ _ ⟨rfl, none, rfl, pn, pm, .inl ⟨rfl, pa⟩⟩)
       · intro i rest b s' ⟨e1, hit, e2, h2, h3, h4⟩
         subst e1 e2
         rw [List.nodup_cons] at h2
         obtain ⟨x, hx, hh⟩ := h3 i List.mem_cons_self
         have h3' : ∀ i ∈ rest, ∃ x, xs[i]? = some x ∧ hashP P w x.1 = hashP P w k := fun j hj => h3 j (List.mem_cons_of_mem _ hj)
         rw [at_ hx]
         dsimp only
         rw [if_pos (beq_iff_eq.mpr hh)]
         refine wpAny_bind (wpAny_dictEpoch ho hd (wpAny_bind (eq_P hu (his x (List.mem_of_getElem? hx)) hk (wpAny_bind (wpAny_dictEpoch ho hd ?_)))))
         show wpAny _ _ (if (ep != ep) = true then _ else _) _ E _
         rw [if_neg (by simp)]
         by_cases q : x.1 = k
         · rw [decide_eq_true q, if_pos rfl]
           rcases h4 with ⟨e1, h4⟩ | ⟨j, y, e1, hy, ey, hj⟩
           · subst e1
             rw [if_neg (by simp)]
             refine wpAny_bind (wpAny_rule ?_)
             split
             · exact wpAny_pure (wpAny_pure (hyes i x hx q))
             · exact wpAny_pure ⟨rfl, some i, rfl, h2.2, h3', .inr ⟨i, x, rfl, hx, q, h2.1⟩⟩
           · have z : i = j := one_place hn hx hy (q.trans ey.symm)
             exact absurd (z ▸ List.mem_cons_self) hj
         · rw [decide_eq_false q, if_neg (by decide)]
           refine wpAny_bind (wpAny_rule ?_)
           rw [if_neg (by simp)]
           refine wpAny_pure ⟨rfl, hit, rfl, h2.2, h3', ?_⟩
           rcases h4 with ⟨e1, h4⟩ | ⟨j, y, e1, hy, ey, hj⟩
           · refine .inl ⟨e1, fun j y hy ey => ?_⟩
             rcases List.mem_cons.mp (h4 j y hy ey) with z | z
             · subst z
               rw [hx] at hy
               cases hy
               exact absurd ey q
             · exact z
           · exact .inr ⟨j, y, e1, hy, ey, fun z => hj (List.mem_cons_of_mem _ z)⟩
       · intro b s' ⟨e1, hit, e2, _, _, h4⟩
         subst e1 e2
         rcases h4 with ⟨e1, h4⟩ | ⟨j, y, e1, hy, ey, _⟩
         · subst e1
           exact wpAny_pure (hno fun j x hj e => by simpa using h4 j x hj e)
         · subst e1
           exact wpAny_pure (hyes j y hy ey))
    · subst e
      dsimp only
      by_cases hs : (es.all fun e => isExactStrKey e.key) = true
      · rw [if_pos hs]
        exact byv rfl
      rw [if_neg hs]
      rw [if_neg hall]
      by_cases h1 : (((placesWithHash es.size (fun i => es[i]?.map (·.hash)) (hashP P w k)).filterMap fun i => es[i]?.map (·.key)) == [Value.str x t]) = true <;>
      (first | rw [if_pos h1] | rw [if_neg h1]) <;> (first | refine wpAny_bind (wpAny_pure ?_) | refine wpAny_bind (quiet_table hk hst ?_)) <;>
      (rw [if_neg (by simp)]
       refine wpAny_bind (wpAny_forIn_list _ (fun rest b s' => s' = s ∧ ∃ hit, b = (none, hit) ∧ rest.Nodup ∧ (∀ i ∈ rest, ∃ x, xs[i]? = some x ∧ hashP P w x.1 = hashP P w k) ∧
         ((hit = none ∧ ∀ (j : Nat) (x : En), xs[j]? = some x → x.1 = k → j ∈ rest) ∨ ∃ j x, hit = some j ∧ xs[j]? = some x ∧ x.1 = k ∧ j ∉ rest)) _ ?_ ?_ _ _ ⟨rfl, none, rfl, pn, pm, .inl ⟨rfl, pa⟩⟩)
       · intro i rest b s' ⟨e1, hit, e2, h2, h3, h4⟩
         subst e1 e2
         rw [List.nodup_cons] at h2
         obtain ⟨x, hx, hh⟩ := h3 i List.mem_cons_self
         have h3' : ∀ i ∈ rest, ∃ x, xs[i]? = some x ∧ hashP P w x.1 = hashP P w k := fun j hj => h3 j (List.mem_cons_of_mem _ hj)
         rw [at_ hx]
         dsimp only
         rw [if_pos (beq_iff_eq.mpr hh)]
         refine wpAny_bind (wpAny_dictEpoch ho hd (wpAny_bind (eq_P hu (his x (List.mem_of_getElem? hx)) hk (wpAny_bind (wpAny_dictEpoch ho hd ?_)))))
         show wpAny _ _ (if (ep != ep) = true then _ else _) _ E _
         rw [if_neg (by simp)]
         by_cases q : x.1 = k
         · rw [decide_eq_true q, if_pos rfl]
           rcases h4 with ⟨e1, h4⟩ | ⟨j, y, e1, hy, ey, hj⟩
           · subst e1
             rw [if_neg (by simp)]
             refine wpAny_bind (wpAny_rule ?_)
             split
             · exact wpAny_pure (wpAny_pure (hyes i x hx q))
             · exact wpAny_pure ⟨rfl, some i, rfl, h2.2, h3', .inr ⟨i, x, rfl, hx, q, h2.1⟩⟩
           · have z : i = j := one_place hn hx hy (q.trans ey.symm)
             exact absurd (z ▸ List.mem_cons_self) hj
         · rw [decide_eq_false q, if_neg (by decide)]
           refine wpAny_bind (wpAny_rule ?_)
           rw [if_neg (by simp)]
           refine wpAny_pure ⟨rfl, hit, rfl, h2.2, h3', ?_⟩
           rcases h4 with ⟨e1, h4⟩ | ⟨j, y, e1, hy, ey, hj⟩
           · refine .inl ⟨e1, fun j y hy ey => ?_⟩
             rcases List.mem_cons.mp (h4 j y hy ey) with z | z
             · subst z
               rw [hx] at hy
               cases hy
               exact absurd ey q
             · exact z
           · exact .inr ⟨j, y, e1, hy, ey, fun z => hj (List.mem_cons_of_mem _ z)⟩
       · intro b s' ⟨e1, hit, e2, _, _, h4⟩
         subst e1 e2
         rcases h4 with ⟨e1, h4⟩ | ⟨j, y, e1, hy, ey, _⟩
         · subst e1
           exact wpAny_pure (hno fun j x hj e => by simpa using h4 j x hj e)
         · subst e1
           exact wpAny_pure (hyes j y hy ey))
end
end Mk


set_option Elab.async false
set_option linter.all false
set_option maxRecDepth 100000
/-! such dicts: d[k], k in d, d[k] = v, d.get(k), at the model's level -/
namespace Mk
open PySem PySem.Spec PyProof.Rows L2
section
variable {P : Program} {w : World} {A : Around} {E : Value → Shared → Prop} {s : Shared} {k : PK} {key : Value} {d : Addr} {xs : List En}

theorem DOf.ty (hm : DOf P w s.heap d xs) : s.TypeIs (.ref d) "dict" :=
  let ⟨o, _, _, ho, hc, _⟩ := hm
  ⟨o, ho, hc.1⟩
theorem DOf.new (h : Heap) : DOf P w (h.push { cls := .type "dict", data := .dict #[] }) h.objs.size [] :=
  ⟨_, #[], 0, Heap.get?_push_size _ rfl, ⟨rfl, rfl, rfl⟩, rfl, rfl, (fun _ z => by cases z), List.nodup_nil⟩
theorem get_P {Q : Option Value → Shared → Prop} (hu : A.units < cLine) (hk : isP P w s.heap k key) (hm : DOf P w s.heap d xs) (hq : Q (lookE xs k) { s with toks := s.toks + drawsP k }) :
    wpAny (model P w) A (dictGet d key) Q E s := by
  obtain ⟨o, es, ep, ho, _, hd, he, his, hn⟩ := hm
  unfold dictGet
  try with_reducible refine wpAny_holding ?_
  refine wpAny_bind (hash_P hu hk (wpAny_bind (find_P (s := { s with toks := s.toks + drawsP k }) hu hk ho hd he his hn (fun hno => ?_) (fun j x hj e => ?_))))
  · rw [lookE_none hno] at hq
    exact wpAny_pure hq
  · rw [← e, lookE_of hn hj] at hq
    refine wpAny_bind (wpAny_dictEntries (s := { s with toks := s.toks + drawsP k }) ho hd ?_)
    rw [ent_get he, hj]
    exact wpAny_pure (e ▸ hq)
theorem putE_new {u v : Value} (hno : ∀ (j : Nat) (x : En), xs[j]? = some x → x.1 ≠ k) : putE xs k u v = xs ++ [(k, u, v)] := by
  unfold putE
  rw [lookE_none hno]
  rfl
theorem putE_old {u v : Value} (hn : (xs.map (·.1)).Nodup) {j : Nat} {x : En} (hj : xs[j]? = some x) (e : x.1 = k) : putE xs k u v = xs.map (fun x => if x.1 = k then (x.1, x.2.1, v) else x) := by
  unfold putE
  rw [← e, lookE_of hn hj]
  rfl
theorem keys_kept (k : PK) (v : Value) : ∀ xs : List En, (xs.map (fun x => if x.1 = k then (x.1, x.2.1, v) else x)).map (·.1) = xs.map (·.1)
  | [] => rfl
  | x :: r => by
    rw [List.map_cons, List.map_cons, List.map_cons, keys_kept k v r]
    by_cases e : x.1 = k
    · rw [if_pos e]
    · rw [if_neg e]
theorem modify_put {v : Value} : ∀ {xs : List En} {j : Nat} {x : En}, (xs.map (·.1)).Nodup → xs[j]? = some x → x.1 = k →
    (xs.map (entP P w)).modify j (fun e => { e with val := v }) = (xs.map (fun x => if x.1 = k then (x.1, x.2.1, v) else x)).map (entP P w)
  | [], j, x, _, hj, _ => by simp at hj
  | y :: r, j, x, hn, hj, e => by
    rw [List.map_cons, List.nodup_cons] at hn
    cases j with
    | zero =>
      have e1 : y = x := by simpa using hj
      subst e1
      have stay : r.map (fun x => if x.1 = k then (x.1, x.2.1, v) else x) = r := by
        have : ∀ z ∈ r, (fun x : En => if x.1 = k then (x.1, x.2.1, v) else x) z = z := fun z hz => if_neg fun q => hn.1 (by rw [e, ← q]; exact List.mem_map_of_mem hz)
        rw [List.map_congr_left this, List.map_id']
      rw [List.map_cons, List.map_cons, stay, if_pos e]
      rfl
    | succ i =>
      have hj' : r[i]? = some x := by simpa using hj
      have hne : ¬ y.1 = k := fun q => hn.1 (by rw [q, ← e]; exact List.mem_map_of_mem (List.mem_of_getElem? hj'))
      rw [List.map_cons, List.map_cons, if_neg hne, List.map_cons, List.modify_succ_cons, modify_put hn.2 hj' e]
theorem set_P {v : Value} {Q : Unit → Shared → Prop} (hu : A.units < cLine) (hk : isP P w s.heap k key) (hm : DOf P w s.heap d xs) (hz : xs.length ≤ sizeLine)
    (hq : ∀ h', DOf P w h' d (putE xs k key v) → Heap.SameBut d s.heap h' → Q () { s with heap := h', toks := s.toks + drawsP k }) : wpAny (model P w) A (dictSet d key v) Q E s := by
  obtain ⟨o, es, ep, ho, hc, hd, he, his, hn⟩ := hm
  have hsz : es.size = xs.length := by rw [← Array.length_toList, he, List.length_map]
  unfold dictSet
  try with_reducible refine wpAny_holding ?_
  refine wpAny_bind (hash_P hu hk ?_)
  unfold dictSetHashed
  try with_reducible refine wpAny_holding ?_
  refine wpAny_bind (find_P (s := { s with toks := s.toks + drawsP k }) hu hk ho hd he his hn (fun hno => ?_) (fun j x hj e => ?_))
  · refine wpAny_bind (wpAny_rule (wpAny_updateDictKeys (hz := by omega) (s := { s with toks := s.toks + drawsP k }) ho hd (hq _ ⟨_, _, ep + 1, Heap.get?_update_self _ ho (Obj.isFreed_of_dict (Obj.data_mapDictKeys hd _)), hc.mapDictKeys _, Obj.data_mapDictKeys hd _, ?_, ?_, ?_⟩ (Heap.SameBut.update ..))))
    · rw [putE_new hno]
      simp [he, entP]
    · rw [putE_new hno]
      intro x hx
      rcases List.mem_append.mp hx with hx | hx
      · exact isP_keeps (his x hx) ho hd (Heap.SameBut.update ..)
      · have e : x = (k, key, v) := by simpa using hx
        subst e
        exact isP_keeps hk ho hd (Heap.SameBut.update ..)
    · rw [putE_new hno, List.map_append, List.nodup_append]
      refine ⟨hn, by simp, fun x hx y hy e => ?_⟩
      have e1 : y = k := by simpa using hy
      obtain ⟨z, hz', e2⟩ := List.mem_map.mp hx
      obtain ⟨i, hi⟩ := List.mem_iff_getElem?.mp hz'
      exact hno i z hi (e2.trans (e.trans e1))
  · refine wpAny_bind (wpAny_rule (wpAny_bind (wpAny_updateDict (s := { s with toks := s.toks + drawsP k }) ho hd (wpAny_point (hq _ ⟨_, _, ep, Heap.get?_update_self _ ho (Obj.isFreed_of_dict (Obj.data_mapDict hd _)), hc.mapDict _, Obj.data_mapDict hd _, ?_, ?_, ?_⟩ (Heap.SameBut.update ..))))))
    · rw [putE_old hn hj e]
      have q := modify_put (P := P) (w := w) (v := v) hn hj e
      rw [← he] at q
      obtain ⟨l⟩ := es
      simpa using q
    · rw [putE_old hn hj e]
      intro x hx
      obtain ⟨y, hy, e1⟩ := List.mem_map.mp hx
      have q := isP_keeps (his y hy) ho hd (Heap.SameBut.update s.heap d (Obj.mapDict (fun l => l.modify j fun e => { e with val := v })))
      by_cases e2 : y.1 = k
      · rw [if_pos e2] at e1
        subst e1
        exact q
      · rw [if_neg e2] at e1
        subst e1
        exact q
    · rw [putE_old hn hj e, keys_kept]
      exact hn

theorem in_P {Q : Value → Shared → Prop} (hu : A.units + 1 < cLine) (hk : isP P w s.heap k key) (hb : (d == sysModules) = false) (hm : DOf P w s.heap d xs)
    (hq : Q (.bool (lookE xs k).isSome) { s with toks := s.toks + drawsP k }) : wpAny (model P w) A (compareOp .In key (.ref d)) Q E s := by
  have hc : wpAny (model P w) A (contains (.ref d) key) (fun b s' => b = (lookE xs k).isSome ∧ s' = { s with toks := s.toks + drawsP k }) E s := by
    unfold contains
    try with_reducible refine wpAny_holding ?_
    refine wpAny_bind (wpAny_specialOf hm.ty slot_dict_contains.lookup ?_)
    show wpAny _ _ (if (some (Value.builtin "dict.__contains__") == some Value.none) = true then _ else _) _ E s
    rw [if_neg (by rw [beq_builtin_none]; exact Bool.false_ne_true)]
    refine wpAny_bind (wpAny_callSpecialUnlessNone?_slot (name := Str.ofString "__contains__") hm.ty slot_dict_contains (wpAny_call_entry slot_dict_contains hm.ty entry_dict_contains ?_ (args_dict_contains _ _)))
    show wpAny _ _ (dictGet d key >>= _) _ _ s
    refine wpAny_bind (get_P hu hk hm ?_)
    cases q : lookE xs k with
    | some v =>
      show wpAny _ _ (ret (.bool true)) _ _ _
      exact wpAny_pure ⟨_, rfl, wpAny_truthy_bool ⟨rfl, rfl⟩⟩
    | none =>
      show wpAny _ _ (Builtin.Dict.pendingKey? d key >>= _) _ _ _
      exact wpAny_bind (wpAny_pendingKey_other hb (wpAny_pure ⟨_, rfl, wpAny_truthy_bool ⟨rfl, rfl⟩⟩))
  show wpAny _ _ (do return .bool (← contains (.ref d) key)) Q E s
  refine wpAny_bind (wpAny_mono hc (fun b s' ⟨e1, e2⟩ => ?_) fun _ _ z => z)
  subst e1 e2
  exact wpAny_pure hq
theorem notIn_P {Q : Value → Shared → Prop} (hu : A.units + 1 < cLine) (hk : isP P w s.heap k key) (hb : (d == sysModules) = false) (hm : DOf P w s.heap d xs)
    (hq : Q (.bool (!(lookE xs k).isSome)) { s with toks := s.toks + drawsP k }) : wpAny (model P w) A (compareOp .NotIn key (.ref d)) Q E s := by
  have hc : wpAny (model P w) A (contains (.ref d) key) (fun b s' => b = (lookE xs k).isSome ∧ s' = { s with toks := s.toks + drawsP k }) E s := by
    unfold contains
    try with_reducible refine wpAny_holding ?_
    refine wpAny_bind (wpAny_specialOf hm.ty slot_dict_contains.lookup ?_)
    show wpAny _ _ (if (some (Value.builtin "dict.__contains__") == some Value.none) = true then _ else _) _ E s
    rw [if_neg (by rw [beq_builtin_none]; exact Bool.false_ne_true)]
    refine wpAny_bind (wpAny_callSpecialUnlessNone?_slot (name := Str.ofString "__contains__") hm.ty slot_dict_contains (wpAny_call_entry slot_dict_contains hm.ty entry_dict_contains ?_ (args_dict_contains _ _)))
    show wpAny _ _ (dictGet d key >>= _) _ _ s
    refine wpAny_bind (get_P hu hk hm ?_)
    cases q : lookE xs k with
    | some v =>
      show wpAny _ _ (ret (.bool true)) _ _ _
      exact wpAny_pure ⟨_, rfl, wpAny_truthy_bool ⟨rfl, rfl⟩⟩
    | none =>
      show wpAny _ _ (Builtin.Dict.pendingKey? d key >>= _) _ _ _
      exact wpAny_bind (wpAny_pendingKey_other hb (wpAny_pure ⟨_, rfl, wpAny_truthy_bool ⟨rfl, rfl⟩⟩))
  show wpAny _ _ (do return .bool (!(← contains (.ref d) key))) Q E s
  refine wpAny_bind (wpAny_mono hc (fun b s' ⟨e1, e2⟩ => ?_) fun _ _ z => z)
  subst e1 e2
  exact wpAny_pure hq
theorem getItem_P {v : Value} {Q : Value → Shared → Prop} (hu : A.units + 1 < cLine) (hk : isP P w s.heap k key) (hm : DOf P w s.heap d xs) (hv : lookE xs k = some v)
    (hq : Q v { s with toks := s.toks + drawsP k }) : wpAny (model P w) A (getItem (.ref d) key) Q E s := by
  unfold getItem
  try with_reducible refine wpAny_holding ?_
  refine wpAny_bind (wpAny_sequenceKey hm.ty (by decide) ?_)
  refine wpAny_bind (wpAny_callSpecial?_slot (name := Str.ofString "__getitem__") hm.ty slot_dict_getitem (wpAny_call_entry slot_dict_getitem hm.ty entry_dict_getitem ?_ (args_dict_getitem _ _)))
  show wpAny _ _ (dictGet d key >>= _) _ _ s
  refine wpAny_bind (get_P hu hk hm ?_)
  rw [hv]
  exact wpAny_pure ⟨v, rfl, wpAny_pure hq⟩
theorem setItem_P {v : Value} {Q : Unit → Shared → Prop} (hu : A.units + 1 < cLine) (hk : isP P w s.heap k key) (hm : DOf P w s.heap d xs) (hz : xs.length ≤ sizeLine)
    (hq : ∀ h', DOf P w h' d (putE xs k key v) → Heap.SameBut d s.heap h' → Q () { s with heap := h', toks := s.toks + drawsP k }) : wpAny (model P w) A (setItem (.ref d) key v) Q E s := by
  unfold setItem
  try with_reducible refine wpAny_holding ?_
  refine wpAny_bind (wpAny_sequenceKey hm.ty (by decide) ?_)
  refine wpAny_bind (wpAny_callSpecial?_slot (name := Str.ofString "__setitem__") hm.ty slot_dict_setitem (wpAny_call_entry slot_dict_setitem hm.ty entry_dict_setitem ?_ (args_dict_setitem _ _ _)))
  show wpAny _ _ (Builtin.Dict.notOrdered "__setitem__" ⟨[.ref d, key, v], []⟩ >>= _) _ _ s
  refine wpAny_bind (wpAny_notOrdered_dict hm.ty ?_)
  show wpAny _ _ (dictSet d key v >>= _) _ _ s
  exact wpAny_bind (set_P hu hk hm hz fun h' hm' hs' => wpAny_pure ⟨.none, rfl, wpAny_pure (hq h' hm' hs')⟩)
/-- d.get(k) -/
theorem dget_P {Q : Value → Shared → Prop} (hu : A.units + 1 < cLine) (hk : isP P w s.heap k key) (hb : (d == sysModules) = false) (hm : DOf P w s.heap d xs)
    (hq : Q ((lookE xs k).getD .none) { s with toks := s.toks + drawsP k }) : wpAny (model P w) A (call (.builtin "dict.get") [.ref d, key]) Q E s := by
  have M : MeetsIn P w (Builtin.«dict.get» ⟨[.ref d, key], []⟩) (fun A R s => A.units + 1 < cLine ∧ ∃ k xs, isP P w s.heap k key ∧ DOf P w s.heap d xs ∧ R (.ok (.ret ((lookE xs k).getD .none))) { s with toks := s.toks + drawsP k }) :=
    .of_wp fun A R s ⟨hu, k, xs, hk, hm, h⟩ => by
      show wpAny _ _ (dictGet d key >>= _) _ _ s
      refine wpAny_bind (get_P hu hk hm ?_)
      cases q : lookE xs k with
      | some v =>
        rw [q] at h
        exact wpAny_pure ⟨v, rfl, h⟩
      | none =>
        rw [q] at h
        show wpAny _ _ (Builtin.Dict.missed d key >>= _) _ _ _
        exact wpAny_bind (wpAny_missed_other hb (wpAny_pure ⟨.none, rfl, h⟩))
  exact call_meetsIn PySem.F.slot_dict_get hm.ty PySem.F.entry_dict_get (PySem.F.args_dict_get_2 _ _) M ⟨hu, k, xs, hk, hm, hq⟩
end
end Mk


set_option Elab.async false
set_option linter.all false
set_option maxRecDepth 100000
/-! such dicts over the layer: what is known of one, look-ups and stores -/
namespace Mk
open PySem PySem.Spec PyProof.Rows L2

/-- v is the key k in the heap H -/
def KyV (K : PySem.W.Frag) (H : Hp) : PK → V → Prop
  | .inl k, v => v = kV k
  | .inr ks, v => ∃ a, v = .ref a ∧ SqT K H a (ks.map kV)
def rawD (P : Program) (w : World) (d : Addr) (xs : List En) : Heap → Prop := fun h =>
  xs.length ≤ sizeLine ∧ (d == sysModules) = false ∧ ∃ o es ep, h.get? d = some o ∧ o.ExactDict ∧ o.data = .dict es ep ∧ es.toList = xs.map (entP P w) ∧ (xs.map (·.1)).Nodup
abbrev PairE (K : PySem.W.Frag) (H : Hp) : List (PK × V) → List En → Prop :=
  Paired fun (p : PK × V) (x : En) => p.1 = x.1 ∧ RelV p.2 x.2.2 ∧ ∃ y, RelV y x.2.1 ∧ KyV K H p.1 y
/-- at d stands a dict with these keys and values: to be read; to be written -/
def DicR (P : Program) (w : World) (K : PySem.W.Frag) (H : Hp) (d : Addr) (kvs : List (PK × V)) : Prop := ∃ xs, Rd H d (.ext (rawD P w d xs)) ∧ PairE K H kvs xs
def DicW (P : Program) (w : World) (K : PySem.W.Frag) (H : Hp) (d : Addr) (kvs : List (PK × V)) : Prop := ∃ xs, H d = some (.ext (rawD P w d xs)) ∧ PairE K H kvs xs

/-- all that may be read as a tuple stays so -/
def Tk (K : PySem.W.Frag) (H H' : Hp) : Prop := ∀ a xs, SqT K H a xs → SqT K H' a xs
section
variable {P : Program} {w : World} {K : PySem.W.Frag} {H H' H1 H2 : Hp} {d : Addr} {kvs : List (PK × V)} {k : PK} {v : V}
theorem Tk.refl : Tk K H H := fun _ _ h => h
theorem Tk.trans (a : Tk K H H1) (b : Tk K H1 H2) : Tk K H H2 := fun x xs h => b x xs (a x xs h)
theorem Tk.new {p : Addr} {o : HO} (h : H p = none) : Tk K H (upd H p o) := fun a xs q => by
  rcases q with (q | ⟨u, q⟩) | q
  · exact .inl (.inl (by rw [upd_ne (ne_of_none q h)]; exact q))
  · exact .inl (.inr ⟨u, by rw [upd_ne (ne_of_none q h)]; exact q⟩)
  · exact .inr q
theorem mut_ne {p a : Addr} {u : HO} (mu : Mut (H p)) (q : H a = some u) (hu : ¬ Mut (some u)) : a ≠ p := fun z => by
  subst z
  rw [q] at mu
  exact hu mu
theorem Tk.mut {p : Addr} {o : HO} (mu : Mut (H p)) : Tk K H (upd H p o) := fun a xs q => by
  rcases q with (q | ⟨u, q⟩) | q
  · exact .inl (.inl (by rw [upd_ne (mut_ne mu q fun z => z)]; exact q))
  · exact .inl (.inr ⟨u, by rw [upd_ne (mut_ne mu q fun z => z)]; exact q⟩)
  · exact .inr q
theorem KyV.keep (h : KyV K H k v) (t : Tk K H H') : KyV K H' k v := by
  cases k with
  | inl _ => exact h
  | inr ks =>
    obtain ⟨a, e, q⟩ := h
    exact ⟨a, e, t _ _ q⟩
theorem PairE.keep {xs : List En} (h : PairE K H kvs xs) (t : Tk K H H') : PairE K H' kvs xs :=
  Paired.mapP h fun _ _ ⟨a, b, y, c, e⟩ => ⟨a, b, y, c, e.keep t⟩
theorem DicW.r (h : DicW P w K H d kvs) : DicR P w K H d kvs :=
  let ⟨xs, a, b⟩ := h
  ⟨xs, .inl a, b⟩
theorem DicW.keep (h : DicW P w K H d kvs) (e : H' d = H d) (t : Tk K H H') : DicW P w K H' d kvs :=
  let ⟨xs, a, b⟩ := h
  ⟨xs, by rw [e]; exact a, b.keep t⟩
theorem DicR.keep (h : DicR P w K H d kvs) (e : H' d = H d) (t : Tk K H H') : DicR P w K H' d kvs := by
  obtain ⟨xs, a, b⟩ := h
  refine ⟨xs, ?_, b.keep t⟩
  rcases a with a | ⟨o, a⟩
  · exact .inl (by rw [e]; exact a)
  · exact .inr ⟨o, by rw [e]; exact a⟩
theorem DicW.mut (h : DicW P w K H d kvs) : Mut (H d) := by
  obtain ⟨xs, a, b⟩ := h
  rw [a]
  exact True.intro
theorem DicW.ne_none (h : DicW P w K H d kvs) {p : Addr} (n : H p = none) : d ≠ p := by
  obtain ⟨xs, a, b⟩ := h
  exact ne_of_none a n
theorem PairE.len {xs : List En} (h : PairE K H kvs xs) : kvs.length = xs.length := Paired.length h
theorem PairE.look {xs : List En} (h : PairE K H kvs xs) (k : PK) : RelO (valV kvs k) (lookE xs k) := by
  induction h with
  | nil => exact True.intro
  | @cons p x ps xs hp t ih =>
    obtain ⟨h1, h2, _⟩ := hp
    by_cases e : p.1 = k
    · have b : lookE (x :: xs) k = some x.2.2 := by simp [lookE, List.find?_cons, h1.symm.trans e]
      rw [valV_pos e, b]
      exact h2
    · have b : lookE (x :: xs) k = lookE xs k := by simp [lookE, List.find?_cons, show ¬ x.1 = k from fun z => e (h1.trans z)]
      rw [valV_neg e, b]
      exact ih
theorem PairE.put {xs : List En} (h : PairE K H kvs xs) {y : V} {u r : Value} (ky : KyV K H k y) (ry : RelV y u) (rv : RelV v r) : PairE K H (putK kvs k v) (putE xs k u r) := by
  have e : (kvs.any fun kv => decide (kv.1 = k)) = (lookE xs k).isSome := by rw [valV_any, (h.look k).isSome_eq]
  unfold putK putE
  rw [e]
  by_cases q : (lookE xs k).isSome = true
  · rw [if_pos q, if_pos q]
    clear e q
    induction h with
    | nil => exact .nil
    | @cons p x ps xs hp t ih =>
      rw [List.map_cons, List.map_cons]
      refine .cons ?_ ih
      obtain ⟨h1, h2, h3⟩ := hp
      by_cases e : p.1 = k
      · rw [if_pos e, if_pos (h1.symm.trans e)]
        exact ⟨h1, rv, h3⟩
      · rw [if_neg e, if_neg (fun z => e (h1.trans z))]
        exact ⟨h1, h2, h3⟩
  · rw [if_neg q, if_neg q]
    exact Paired.snoc h ⟨rfl, rv, y, ry, ky⟩
end

section
variable {X : Cx} {pins : List (Addr × Obj)} {σ : L2.St} {H : Hp} {s : Shared} {d : Addr} {kvs : List (PK × V)} {k : PK} {y v : V} {u r : Value}
theorem isP_of (I : Inv X pins σ H s) (h : KyV X.K H k y) (ry : RelV y u) : isP X.prog X.w s.heap k u := by
  cases k with
  | inl j =>
    cases h
    exact kV_is (P := X.prog) (w := X.w) ry
  | inr ks =>
    obtain ⟨a, e, q⟩ := h
    subst e
    obtain rfl : u = Value.ref a := ry
    obtain ⟨its, rv, ⟨o, ho, hc, n, hd⟩, _⟩ := I.tuple q
    exact ⟨a, rfl, o, its.toArray, n, ho, hc, hd, by simpa using items_are (P := X.prog) (w := X.w) rv⟩
theorem keys_ok (I : Inv X pins σ H s) : ∀ {kvs : List (PK × V)} {xs : List En}, PairE X.K H kvs xs → ∀ x ∈ xs, isP X.prog X.w s.heap x.1 x.2.1
  | _, _, .nil => fun x hx => by cases hx
  | _, _, .cons hp t => fun x hx => by
    rcases List.mem_cons.mp hx with e | hx
    · subst e
      obtain ⟨e1, _, y, ry, ky⟩ := hp
      exact isP_of I (e1 ▸ ky) ry
    · exact keys_ok I t x hx
theorem dic_of (I : Inv X pins σ H s) (h : DicR X.prog X.w X.K H d kvs) : ∃ xs, DOf X.prog X.w s.heap d xs ∧ PairE X.K H kvs xs ∧ xs.length ≤ sizeLine ∧ (d == sysModules) = false := by
  obtain ⟨xs, a, b⟩ := h
  obtain ⟨⟨z, hb, o, es, ep, h1, h2, h3, h4, h5⟩, _, _⟩ := (show ObjOk X.prog X.w H s.heap d (.ext (rawD X.prog X.w d xs)) from a.ok I.hok)
  exact ⟨xs, ⟨o, es, ep, h1, h2, h3, h4, keys_ok I b, h5⟩, b, z, hb⟩
theorem raw_stay {d : Addr} {xs : List En} : ∀ h1 h2 : Heap, rawD X.prog X.w d xs h1 → (∀ o, h1.get? d = some o → h2.get? d = some o) → rawD X.prog X.w d xs h2 :=
  fun h1 h2 ⟨z, hb, o, es, ep, e1, r⟩ st => ⟨z, hb, o, es, ep, st o e1, r⟩
theorem raw_ok {H' : Hp} {h' : Heap} {xs : List En} (z : xs.length ≤ sizeLine) (hb : (d == sysModules) = false) (hm : DOf X.prog X.w h' d xs) : ObjOk X.prog X.w H' h' d (.ext (rawD X.prog X.w d xs)) := by
  obtain ⟨o, es, ep, h1, h2, h3, h4, _, h5⟩ := hm
  exact ⟨⟨z, hb, o, es, ep, h1, h2, h3, h4, h5⟩, ⟨o, h1⟩, raw_stay⟩
theorem putE_len (xs : List En) (k : PK) (u v : Value) : (putE xs k u v).length ≤ xs.length + 1 := by
  unfold putE
  split
  · rw [List.length_map]
    omega
  · rw [List.length_append, List.length_singleton]
    omega

/-- k in d, k not in d, d[k] -/
def rInD (P : Program) (w : World) (K : PySem.W.Frag) : R2 := fun x y H Q => ∃ d kvs k, y = .ref d ∧ DicR P w K H d kvs ∧ KyV K H k x ∧ Q (.bl (valV kvs k).isSome) H
def rNotInD (P : Program) (w : World) (K : PySem.W.Frag) : R2 := fun x y H Q => ∃ d kvs k, y = .ref d ∧ DicR P w K H d kvs ∧ KyV K H k x ∧ Q (.bl (!(valV kvs k).isSome)) H
def rIxD (P : Program) (w : World) (K : PySem.W.Frag) : R2 := fun x y H Q => ∃ d kvs k v, x = .ref d ∧ DicR P w K H d kvs ∧ KyV K H k y ∧ valV kvs k = some v ∧ Q v H
theorem op_inD (hu : X.A.units + 1 < cLine) : OpR X (compareOp .In) (rInD X.prog X.w X.K) := by
  intro pins s σ H x y u v Q I rx ry ⟨d, kvs, k, e, h, ky, q⟩
  subst e
  obtain rfl : v = Value.ref d := ry
  obtain ⟨xs, hm, hp, _, hb⟩ := dic_of I h
  refine in_P hu (isP_of I ky rx) hb hm ⟨.bl (valV kvs k).isSome, H, I.tok _, ?_, q⟩
  rw [(hp.look k).isSome_eq]
  rfl
theorem op_notInD (hu : X.A.units + 1 < cLine) : OpR X (compareOp .NotIn) (rNotInD X.prog X.w X.K) := by
  intro pins s σ H x y u v Q I rx ry ⟨d, kvs, k, e, h, ky, q⟩
  subst e
  obtain rfl : v = Value.ref d := ry
  obtain ⟨xs, hm, hp, _, hb⟩ := dic_of I h
  refine notIn_P hu (isP_of I ky rx) hb hm ⟨.bl (!(valV kvs k).isSome), H, I.tok _, ?_, q⟩
  rw [(hp.look k).isSome_eq]
  rfl
theorem ix_dic (hu : X.A.units + 1 < cLine) : IxR X (rIxD X.prog X.w X.K) := by
  intro value slice pins s σ H x y u v Q I rx ry ⟨d, kvs, k, z, e, h, ky, hv, q⟩ hs
  subst e
  obtain rfl : u = Value.ref d := rx
  obtain ⟨xs, hm, hp, _, hb⟩ := dic_of I h
  obtain ⟨w', hw, rw'⟩ := RelO.some_of (v := z) (o := lookE xs k) (by rw [← hv]; exact hp.look k)
  exact tail_any hm.ty PySem.F.slot_dict_getitem.lookup (getItem_P hu (isP_of I ky ry) hm hw ⟨z, H, I.tok _, rw', q⟩) hs
/-- d[k] = v -/
def rSetD (P : Program) (w : World) (K : PySem.W.Frag) : TSet := fun o i v H Q => ∃ d kvs k, o = .ref d ∧ DicW P w K H d kvs ∧ KyV K H k i ∧ kvs.length < sizeLine ∧
  ∀ u, DicW P w K (upd H d u) d (putK kvs k v) → Q (upd H d u)
theorem set_dic (hu : X.A.units + 1 < cLine) : PSet X (rSetD X.prog X.w X.K) := by
  intro pins s σ H o i v ov iv uv Q I ro ri rv ⟨d, kvs, k, e, h, ky, hl, q⟩
  subst e
  obtain rfl : ov = Value.ref d := ro
  obtain ⟨xs, a, b⟩ := id h
  obtain ⟨⟨z, hb, o, es, ep, h1, h2, h3, h4, h5⟩, _, _⟩ := (show ObjOk X.prog X.w H s.heap d (.ext (rawD X.prog X.w d xs)) from I.hok d _ a)
  have hm : DOf X.prog X.w s.heap d xs := ⟨o, es, ep, h1, h2, h3, h4, keys_ok I b, h5⟩
  refine setItem_P hu (isP_of I ky ri) hm z fun h' hm' hs => ?_
  have hz' : (putE xs k iv uv).length ≤ sizeLine := by
    have := putE_len xs k iv uv
    have := b.len
    omega
  have he : ∃ q, h'.get? d = some q := let ⟨q, _, _, hq, _⟩ := hm'; ⟨q, hq⟩
  have mu : Mut (H d) := h.mut
  refine ⟨_, d_write (ob := .ext (rawD X.prog X.w d (putE xs k iv uv))) I mu hs he (raw_ok hz' hb hm'), q _ ⟨_, upd_same, ?_⟩⟩
  exact (b.put ky ri rv).keep (Tk.mut mu)
/-- d.get(k) -/
def rGetD (P : Program) (w : World) (K : PySem.W.Frag) : V → List V → Hp → VK → Prop := fun x vs H Q => ∃ d kvs k y, x = .ref d ∧ vs = [y] ∧ DicR P w K H d kvs ∧ KyV K H k y ∧ Q ((valV kvs k).getD .non) H
theorem mt_dget (hu : X.A.units + 1 < cLine) : MtR X "dict.get" (rGetD X.prog X.w X.K) := by
  intro pins s σ H x vs u us Q I rx rs ⟨d, kvs, k, y, e, e2, h, ky, q⟩
  subst e e2
  obtain rfl : u = Value.ref d := rx
  obtain ⟨uy, eu, ry⟩ := vals1 rs
  subst eu
  obtain ⟨xs, hm, hp, _, hb⟩ := dic_of I h
  exact dget_P hu (isP_of I ky ry) hb hm ⟨(valV kvs k).getD .non, H, I.tok _, (hp.look k).getD rfl, q⟩
/-- a dict of texts and ints, just made, goes on as one of these -/
def tToP (P : Program) (w : World) (K : PySem.W.Frag) (t : TE) : TE := fun σ H Q => t σ H fun v H1 => ∃ d kvs, v = .ref d ∧ H1 d = some (.dK kvs) ∧ ∀ u, DicW P w K (upd H1 d u) d (kvs.map fun kv => (Sum.inl kv.1, kv.2)) → Q v (upd H1 d u)
end
end Mk


set_option Elab.async false
set_option linter.all false
set_option maxRecDepth 100000
/-! such dicts: {} and displays of texts, len, walks over keys, next(iter(d), None) -/
namespace Mk
open PySem PySem.Spec PyProof.Rows L2

section
variable {P : Program} {w : World} {K : PySem.W.Frag} {H : Hp}
theorem ents_of : ∀ {es : List DictEntry} {vs : List (Key × Value)} {kvs : List (Key × V)}, Pairs (mixKind P w) es vs → (∀ e ∈ es, ∃ k, (mixKind P w).is k e.key = true ∧ e.hash = (mixKind P w).hash k) → KV kvs vs →
    ∃ xs : List En, es = xs.map (entP P w) ∧ PairE K H (kvs.map fun kv => (Sum.inl kv.1, kv.2)) xs ∧ xs.map (·.1) = (vs.map (·.1)).map Sum.inl
  | _, _, _, .nil, _, .nil => ⟨[], rfl, .nil, rfl⟩
  | _, _, _, .cons (e := e) (kv := kv) (es := es) h1 h2 t, hk, .cons (a := p) hp tp => by
    obtain ⟨xs, e1, e2, e3⟩ := ents_of t (fun e he => hk e (List.mem_cons_of_mem _ he)) tp
    obtain ⟨k, hk1, hk2⟩ := hk e List.mem_cons_self
    have ek : kv.1 = k := (mixKind P w).inj _ _ _ h1 hk1
    subst ek
    refine ⟨(.inl kv.1, e.key, e.val) :: xs, ?_, ?_, ?_⟩
    · rw [List.map_cons, e1]
      congr 1
      show e = ⟨hashP P w (.inl kv.1), e.key, e.val⟩
      rw [show hashP P w (.inl kv.1) = e.hash from hk2.symm]
    · rw [List.map_cons]
      refine .cons ⟨?_, ?_, kV p.1, ?_, rfl⟩ e2
      · rw [hp.1]
      · show L2.RelV p.2 e.val
        rw [h2]
        exact hp.2
      · rw [hp.1]
        rcases keyIs_shape (show keyIs kv.1 e.key = true from h1) with ⟨i, tk, q1, q2⟩ | ⟨x, tk, q1, q2⟩
        · rw [q1, q2]
          exact ⟨tk, rfl⟩
        · rw [q1, q2]
          exact ⟨tk, rfl⟩
    · rw [List.map_cons, List.map_cons, List.map_cons, e3]
theorem nodup_inl {ks : List Key} (h : ks.Nodup) : (ks.map (Sum.inl : Key → PK)).Nodup := by
  refine List.Pairwise.map _ (fun a b hab => ?_) h
  intro e
  injection e with e
  exact hab e
end

section
variable {X : Cx} {pins : List (Addr × Obj)} {σ : L2.St} {H : Hp} {s : Shared} {d : Addr}
/-- a dict of texts and ints is one of these -/
theorem Inv.toP {kvs : List (Key × V)} (I : L2.Inv X pins σ H s) (h : H d = some (.dK kvs)) : ∃ u, L2.Inv X pins σ (upd H d u) s ∧ DicW X.prog X.w X.K (upd H d u) d (kvs.map fun kv => (Sum.inl kv.1, kv.2)) := by
  obtain ⟨z, hb, vs, rel, o, es, ep, h1, h2, h3, h4, h5, h6⟩ := dk_of I.hok h
  obtain ⟨xs, e1, e2, e3⟩ := ents_of (K := X.K) (H := H) h5 (fun e he => h4 e (Array.mem_toList_iff.mp he)) rel
  have hn : (xs.map (·.1)).Nodup := by rw [e3]; exact nodup_inl h6
  have hl : xs.length ≤ sizeLine := by
    have := e2.len
    rw [List.length_map] at this
    omega
  have mu : Mut (H d) := by rw [h]; exact True.intro
  have new : ObjOk X.prog X.w (upd H d (.ext (rawD X.prog X.w d xs))) s.heap d (.ext (rawD X.prog X.w d xs)) := ⟨⟨hl, hb, o, es, ep, h1, h2, h3, e1, hn⟩, ⟨o, h1⟩, raw_stay⟩
  exact ⟨.ext (rawD X.prog X.w d xs), I.write (x := d) (e := d) (t' := s.toks) (h' := s.heap) mu (.inl rfl) (fun _ _ _ q => q) ⟨o, h1⟩ new, xs, upd_same, e2.keep (Tk.mut mu)⟩
theorem pe_toP {e : Expr} {t : TE} (h : PE X e t) : PE X e (tToP X.prog X.w X.K t) := by
  refine ⟨fun pins s σ H Q I hw => ?_⟩
  refine thn (h.run pins s σ H _ I hw) fun v s1 ⟨x, H1, I1, r, d, kvs, ex, hd, q⟩ => ?_
  subst ex
  obtain ⟨u, I2, hu⟩ := Inv.toP I1 hd
  exact ⟨.ref d, _, I2, r, q u hu⟩

/-- len(d) -/
def rLenD (P : Program) (w : World) (K : PySem.W.Frag) : List V → Hp → VK → Prop := fun vs H Q => ∃ d kvs, vs = [.ref d] ∧ DicR P w K H d kvs ∧ Q (.int kvs.length) H
theorem DOf.raw {P : Program} {w : World} {h : Heap} {xs : List En} (hm : DOf P w h d xs) : ∃ es ep, h.DictRaw d es ep ∧ es.size = xs.length ∧ ∀ i : Nat, es[i]? = (xs[i]?).map (entP P w) := by
  obtain ⟨o, es, ep, h1, h2, h3, h4, h5, h6⟩ := hm
  exact ⟨es, ep, ⟨o, h1, h2, h3⟩, by rw [← Array.length_toList, h4, List.length_map], ent_get h4⟩
theorem call_lenD : CallR X (.builtin "len") (rLenD X.prog X.w X.K) := by
  intro pins s σ H xs us Q I r ⟨d, kvs, e, h, q⟩
  subst e
  obtain ⟨u, eu, rx⟩ := vals1 r
  subst eu
  obtain rfl : u = .ref d := rx
  obtain ⟨xs, hm, hp, z, hb⟩ := dic_of I h
  obtain ⟨es, ep, hr, hs, _⟩ := hm.raw
  have e1 : es.size = kvs.length := by rw [hs, hp.len]
  refine PyProof.Rows.call_len_slot (n := kvs.length) hm.ty PySem.F.slot_dict_len (fun Q' hq => call_len_raw hb hr (by rw [e1]; exact hq)) (by omega) (by have := hp.len; rw [sizeLine_eq] at z; omega) ?_
  exact ⟨.int kvs.length, H, I.tok _, ⟨_, rfl⟩, q⟩
end

/-! ### walks over the keys -/
/-- the keys of the dict at d, which is locked -/
def ItD (P : Program) (w : World) (K : PySem.W.Frag) (d : Addr) (o : Obj) (xs : List En) (kvs : List (PK × V)) : It :=
  ⟨fun i H => H d = some (.frz o (.ext (rawD P w d xs))) ∧ PairE K H kvs xs ∧ i < kvs.length, fun i H x H' => H' = H ∧ ∃ k v, kvs[i]? = some (k, v) ∧ KyV K H k x,
    fun i H => H d = some (.frz o (.ext (rawD P w d xs))) ∧ PairE K H kvs xs ∧ kvs.length ≤ i⟩
theorem PairE.at {K : PySem.W.Frag} {H : Hp} : ∀ {kvs : List (PK × V)} {xs : List En} {i : Nat} {p : PK × V}, PairE K H kvs xs → kvs[i]? = some p → ∃ x, xs[i]? = some x ∧ p.1 = x.1 ∧ L2.RelV p.2 x.2.2 ∧ ∃ y, L2.RelV y x.2.1 ∧ KyV K H p.1 y
  | _, _, _, _, .nil, e => by simp at e
  | _, _, 0, p, .cons h t, e => by
    have e' := Option.some.inj (show some _ = some p from by simpa using e)
    subst e'
    exact ⟨_, rfl, h⟩
  | _, _, i + 1, p, .cons h t, e => by
    obtain ⟨x, hx, r⟩ := PairE.at (i := i) (p := p) t (by simpa using e)
    exact ⟨x, by simpa using hx, r⟩
section
variable {P : Program} {w : World} {K : PySem.W.Frag} {tg : Expr} {d : Addr} {o : Obj} {es : Array DictEntry} {ep : Nat} {xs : List En} {kvs : List (PK × V)}
theorem turn_dic (it : Addr) (hod : o.data = .dict es ep) : Turn P w K tg (ItD P w K d o xs kvs) [it] it (fun i h => h.IsKeyIter it d i kvs.length ep) where
  mem := by simp
  obj := fun i h st b hb => by
    have e : b = it := by simpa using hb
    subst e
    obtain ⟨oi, e, c, dd⟩ := st
    exact ⟨oi, e, fun v z => by rw [dd] at z; cases z⟩
  keep := fun i h h' st k => st.at fun oi e => k it (by simp) oi e
  item := by
    intro X hP hw hK hc i pins s σ H E I hf st ⟨hd, hp, hi⟩
    subst hP hw hK
    obtain ⟨f0, f1, f2, f3, f4, f5⟩ := hf it (by simp)
    obtain ⟨e0, ⟨z, hb, o', es', ep', h1, h2, h3, h4, h5⟩, _, _⟩ := (show ObjOk X.prog X.w H s.heap d (.frz o (.ext (rawD X.prog X.w d xs))) from I.hok d _ hd)
    rw [e0] at h1
    cases h1
    obtain ⟨q1, q2⟩ := dict_ep hod h3
    subst q1 q2
    obtain ⟨p, hkv⟩ : ∃ p, kvs[i]? = some p := ⟨kvs[i], List.getElem?_eq_getElem hi⟩
    obtain ⟨x, hx, e1, e2, y, ry, ky⟩ := hp.at hkv
    have hsz : es'.size = kvs.length := by rw [← Array.length_toList, h4, List.length_map, hp.len]
    have hlt : i < es'.size := by omega
    rw [← hsz] at st
    refine wpAny_pyNext_keys_item_raw st ⟨o, e0, h2, h3⟩ hlt fun h' st' sb => ?_
    have I1 : L2.Inv X pins σ H { s with heap := h' } := I.turned (t' := s.toks) (fun b ob hb e => (sb.2 b hb).trans e) f0 f1 f3 f4 f5
    obtain ⟨oi, e, c, dd⟩ := id st'
    have ek : es'[i].key = x.2.1 := by
      have q := ent_get h4 i
      rw [Array.getElem?_eq_getElem hlt, hx] at q
      rw [Option.some.inj q]
      rfl
    refine ⟨es'[i].key, rfl, go_of (s := { s with heap := h' }) e c dd (by decide) ⟨y, H, I1, by rw [ek]; exact ry, ⟨rfl, p.1, p.2, hkv, ky⟩, ?_, fun b hb => (hf b hb).1⟩⟩
    show h'.IsKeyIter it d (i + 1) kvs.length _
    rw [← hsz]
    exact st'
  done := by
    intro X hP hw hK hc i pins s σ H E I hf st ⟨hd, hp, hi⟩
    subst hP hw hK
    obtain ⟨f0, f1, f2, f3, f4, f5⟩ := hf it (by simp)
    obtain ⟨e0, ⟨z, hb, o', es', ep', h1, h2, h3, h4, h5⟩, _, _⟩ := (show ObjOk X.prog X.w H s.heap d (.frz o (.ext (rawD X.prog X.w d xs))) from I.hok d _ hd)
    rw [e0] at h1
    cases h1
    obtain ⟨q1, q2⟩ := dict_ep hod h3
    subst q1 q2
    have hsz : es'.size = kvs.length := by rw [← Array.length_toList, h4, List.length_map, hp.len]
    rw [← hsz] at st
    exact wpAny_pyNext_keys_end_raw (I.ok.hd hc) st ⟨o, e0, h2, h3⟩ (by omega) fun h' eb => ⟨rfl, I.turned (t' := s.toks) (fun b ob hb e => eb b ob hb e) f0 f1 f3 f4 f5⟩
  self := fun A i s Q E st h => wpAny_pyIter_keyiter st h
end
def iDic (P : Program) (w : World) (K : PySem.W.Frag) (td : TE) : TI := fun σ H R => td σ H fun x H1 => ∃ d o xs kvs, x = .ref d ∧ H1 d = some (.frz o (.ext (rawD P w d xs))) ∧ PairE K H1 kvs xs ∧ R (ItD P w K d o xs kvs) H1
section
variable {X : Cx} {tg e : Expr} {td : TE}
theorem pi_dic (he : PE X e td) : PI X tg e (iDic X.prog X.w X.K td) := by
  refine ⟨fun pins s σ H R I h => ?_⟩
  refine thn (he.run pins s σ H _ I h) fun u s1 ⟨x, H1, I1, rx, d, o, xs, kvs, ex, hd, hp, q⟩ => ?_
  subst ex
  obtain rfl : u = Value.ref d := rx
  obtain ⟨e0, ⟨z, hb, o', es, ep, h1, h2, h3, h4, h5⟩, _, _⟩ := (show ObjOk X.prog X.w H1 s1.heap d (.frz o (.ext (rawD X.prog X.w d xs))) from I1.hok d _ hd)
  rw [e0] at h1
  cases h1
  have hsz : es.size = kvs.length := by rw [← Array.length_toList, h4, List.length_map, hp.len]
  refine iter_keys hb e0 h2 h3 (pi_one (tk := s1.toks) I1 _ (turn_dic (kvs := kvs) (xs := xs) _ h3) ⟨_, Heap.get?_push_size _ rfl, rfl, ?_⟩ q)
  rw [hsz] <;> rfl
end

/-- a for over the keys of a locked dict -/
theorem for_dic {P : Program} {w : World} {K : PySem.W.Frag} {d : Addr} {o : Obj} {xs : List En} {kvs : List (PK × V)} {g : TG} {tb : TS} {D : Ends} {σ : L2.St} {H : Hp} (Pv : Nat → L2.St → Hp → Prop) (h0 : Pv 0 σ H)
    (hl : ∀ i σ H, i ≤ kvs.length → Pv i σ H → H d = some (.frz o (.ext (rawD P w d xs))) ∧ PairE K H kvs xs)
    (hs : ∀ i k v x σ H, kvs[i]? = some (k, v) → KyV K H k x → Pv i σ H → g x σ H fun σ2 H2 => tb { D with nx := Pv (i + 1), ct := Pv (i + 1), bk := D.nx } σ2 H2) (hd : ∀ σ H, Pv kvs.length σ H → D.nx σ H) :
    ∃ W : Nat → Nat → L2.St → Hp → Prop, (∃ m, W 0 m σ H) ∧ ∀ i m σ H, W i m σ H →
      ((ItD P w K d o xs kvs).stop i H ∧ D.nx σ H) ∨ ((ItD P w K d o xs kvs).go i H ∧ ∃ N : L2.St → Hp → Prop, (∀ σ' H', N σ' H' → ∃ m', m' < m ∧ W (i + 1) m' σ' H') ∧
        ∀ x H', (ItD P w K d o xs kvs).yld i H x H' → g x σ H' fun σ2 H2 => tb { D with nx := N, ct := N, bk := D.nx } σ2 H2) := by
  refine ⟨fun i m σ H => m = kvs.length - i ∧ i ≤ kvs.length ∧ Pv i σ H, ⟨kvs.length, by simp, Nat.zero_le _, h0⟩, ?_⟩
  intro i m σ H ⟨em, hi, p⟩
  subst em
  obtain ⟨a, b⟩ := hl i σ H hi p
  by_cases hlt : i < kvs.length
  · refine .inr ⟨⟨a, b, hlt⟩, Pv (i + 1), fun σ' H' p' => ⟨kvs.length - (i + 1), by omega, rfl, hlt, p'⟩, fun x H' ⟨e, k, v, hk, ky⟩ => ?_⟩
    subst e
    exact hs i k v x σ _ hk ky p
  · have e : i = kvs.length := by omega
    subst e
    exact .inl ⟨⟨a, b, Nat.le_refl _⟩, hd σ H p⟩
end Mk


set_option Elab.async false
set_option linter.all false
set_option maxRecDepth 100000
set_option maxHeartbeats 1000000
/-! such dicts: comprehensions, next(iter(d), None) -/
namespace Mk
open PySem PySem.Spec PyProof.Rows L2

section
variable {X : Cx} {pins : List (Addr × Obj)} {σ : L2.St} {H : Hp} {s : Shared} {d : Addr}
theorem raw_new (h : Heap) (hb : sysModules < h.objs.size) {H' : Hp} : ObjOk X.prog X.w H' (h.push { cls := .type "dict", data := .dict #[] }) h.objs.size (.ext (rawD X.prog X.w h.objs.size [])) :=
  raw_ok (Nat.zero_le _) (beq_eq_false_iff_ne.mpr (Ne.symm (Nat.ne_of_lt hb))) (DOf.new h)
/-- the store of a comprehension's turn -/
theorem dic_store {E : Value → Shared → Prop} {kvs : List (PK × V)} {k : PK} {y v : V} {u r : Value} {N : Hp → Prop} (hu : X.A.units < cLine) (I : L2.Inv X pins σ H s) (h : DicW X.prog X.w X.K H d kvs) (ky : KyV X.K H k y) (hl : kvs.length < sizeLine)
    (ry : L2.RelV y u) (rv : L2.RelV v r) (q : ∀ z, DicW X.prog X.w X.K (upd H d z) d (putK kvs k v) → N (upd H d z)) :
    wpAny (model X.prog X.w) X.A (dictSet d u r) (fun _ s' => ∃ H', L2.Inv X pins σ H' s' ∧ N H') E s := by
  obtain ⟨xs, a, b⟩ := id h
  obtain ⟨⟨z, hb, o, es, ep, h1, h2, h3, h4, h5⟩, _, _⟩ := (show ObjOk X.prog X.w H s.heap d (.ext (rawD X.prog X.w d xs)) from I.hok d _ a)
  refine set_P hu (isP_of I ky ry) ⟨o, es, ep, h1, h2, h3, h4, keys_ok I b, h5⟩ z fun h' hm' hs => ?_
  have hz : (putE xs k u r).length ≤ sizeLine := by
    have := putE_len xs k u r
    have := b.len
    omega
  have he : ∃ q, h'.get? d = some q := let ⟨q, _, _, hq, _⟩ := hm'; ⟨q, hq⟩
  exact ⟨_, d_write (ob := .ext (rawD X.prog X.w d (putE xs k u r))) I h.mut hs he (raw_ok hz hb hm'), q _ ⟨_, upd_same, (b.put ky ry rv).keep (Tk.mut h.mut)⟩⟩
end

/-- {k: v for target in iter if ..}, D the new dict -/
def tDcP (P : Program) (w : World) (K : PySem.W.Frag) (wi : TI) (g : TG) (tt : TT) (tk tv : TE) (vs : List Nat) : TE := fun σ H Q => wi σ H fun J H1 => ∀ D u, H1 D = none → DicW P w K (upd H1 D u) D [] →
  ∃ W : Nat → Nat → Hp → Prop, (∃ m, W 0 m (upd H1 D u)) ∧ ∀ i m H, W i m H → (J.stop i H ∧ Q (.ref D) H) ∨
    (J.go i H ∧ ∃ Nx : Hp → Prop, (∀ H', Nx H' → ∃ m', m' < m ∧ W (i + 1) m' H') ∧ ∀ x H', J.yld i H x H' → g x (wipe σ vs) H' fun σ2 H2 => wipe σ2 vs = wipe σ vs ∧ tt σ2 H2 fun b H3 =>
      if b = true then tk σ2 H3 fun y H4 => tv σ2 H4 fun z H5 => ∃ kvs k, KyV K H5 k y ∧ DicW P w K H5 D kvs ∧ kvs.length < sizeLine ∧ ∀ u, DicW P w K (upd H5 D u) D (putK kvs k z) → Nx (upd H5 D u) else Nx H3)
section
variable {X : Cx} {kx vx tg iter : Expr} {ifs : List Expr} {scope : Scope} {own : List (Str × Nat)} {pos : Pos} {wi : TI} {g : TG} {tt : TT} {tk tv : TE}
abbrev Blk (X : Cx) (scope : Scope) (M : Cx → Prop) : Prop := ∀ (s : Shared) (H : Hp) (C : Addr) (cl : List (Str × Addr)) (fp : List Addr), M (X.blk s H scope (compEnvC scope cl C X.env) fp)
theorem pe_dcP (hu : X.A.units < cLine) (hc : X.calm = true) (hN : X.N.Nodup) (hi : PI X tg iter wi) (ok : BlkOk X.N X.env.scope scope own) (hg : Blk X scope fun Y => PG Y tg g) (ht : Blk X scope fun Y => PTs Y ifs tt)
    (hk : Blk X scope fun Y => PE Y kx tk) (hv : Blk X scope fun Y => PE Y vx tv) (hs : ∀ x, foldedSetIterable iter X.env x = pure x := by intro _; rfl) :
    PE X (.DictComp kx vx [⟨tg, iter, ifs, 0⟩] scope pos) (tDcP X.prog X.w X.K wi g tt tk tv (own.map (·.2))) := by
  refine ⟨fun pins s σ H Q I h => ?_⟩
  rw [arm_eval_DictComp]
  have clos : ∀ y ∈ scope.names, y.2 = .free → ∃ c, X.env.cells.lookup y.1 = some c := fun y hy e => (ok.free y hy e).elim (fun k => I.ok.has _ (.inl k)) (fun k => I.ok.has _ (.inr k))
  refine wpAny_comprehension_free (use := none) rfl hs (closure_ok clos) ok.kind (fun y hy e => by rw [ok.uniq y hy, e]) (thn (hi.run pins s σ H _ I h) fun xv s1 hx => thn hx fun itv s2 ⟨it, fp, tn, J, H2, e, I2, T, st2, f2, q⟩ => ?_)
  subst e
  refine wpAny_newObj_type (newEnv_comp ?_)
  -- the dict is at the heap's end
  have nD : H2 s2.heap.objs.size = none := I2.hok.fresh (Nat.le_refl _)
  have w0D : DicW X.prog X.w X.K (upd H2 s2.heap.objs.size (.ext (rawD X.prog X.w s2.heap.objs.size []))) s2.heap.objs.size [] := ⟨[], upd_same, .nil⟩
  obtain ⟨W, ⟨m0, w0⟩, turn⟩ := q s2.heap.objs.size _ nD w0D
  have I3 : L2.Inv X pins σ (upd H2 s2.heap.objs.size (.ext (rawD X.prog X.w s2.heap.objs.size []))) { s2 with heap := s2.heap.push { cls := .type "dict", data := .dict #[] } } :=
    I2.laid (t' := s2.toks) (fun b o e => Heap.get?_push_of_some _ e) (Nat.le_refl _) (raw_new s2.heap I2.big)
  have old : ∀ b ∈ fp, b < s2.heap.objs.size := fun b hb => let ⟨_, e, _⟩ := T.obj _ _ st2 b hb; Heap.lt_size e
  clear w0D
  generalize eH : upd H2 s2.heap.objs.size (.ext (rawD X.prog X.w s2.heap.objs.size [])) = H3 at w0 I3
  generalize eS : ({ s2 with heap := s2.heap.push { cls := .type "dict", data := .dict #[] } } : Shared) = s3 at I3
  generalize eD : s2.heap.objs.size = D at turn
  have h3 : s3.heap = s2.heap.push { cls := .type "dict", data := .dict #[] } := by rw [← eS]
  have st3 : tn 0 s3.heap := T.keep _ _ _ st2 fun b _ o e => by rw [h3]; exact Heap.get?_push_of_some _ e
  have f3 : ∀ b ∈ fp, FpOk X pins H3 b ∧ b < s3.heap.objs.size := fun b hb => by
    refine ⟨⟨?_, (f2 b hb).2⟩, by rw [h3, Heap.size_push]; exact Nat.lt_succ_of_lt (old b hb)⟩
    rw [← eH, upd_ne (Nat.ne_of_lt (old b hb))]
    exact (f2 b hb).1
  have I4 := block_start I3 ok hN f3
  have pg := hg s3 H3 s3.heap.objs.size (cellsFrom (s3.heap.objs.size + 1) scope.names (cloFrom X.env.cells scope.names [])) fp
  have pt := ht s3 H3 s3.heap.objs.size (cellsFrom (s3.heap.objs.size + 1) scope.names (cloFrom X.env.cells scope.names [])) fp
  have pk := hk s3 H3 s3.heap.objs.size (cellsFrom (s3.heap.objs.size + 1) scope.names (cloFrom X.env.cells scope.names [])) fp
  have pv := hv s3 H3 s3.heap.objs.size (cellsFrom (s3.heap.objs.size + 1) scope.names (cloFrom X.env.cells scope.names [])) fp
  have goal : codeAny (model X.prog X.w) X.A (.compStart (.DictComp kx vx [⟨tg, iter, ifs, 0⟩] scope pos) 0 (.ref it) (.ref D) (compEnvC scope (cellsFrom (s3.heap.objs.size + 1) scope.names (cloFrom X.env.cells scope.names [])) s3.heap.objs.size X.env))
      (compPost (model X.prog X.w) X.A X.xe none (EP X pins σ Q) (.ref D) s3.heap.objs.size) { s3 with heap := pushCells (s3.heap.push { cls := .type "dict", data := .dict #[] }) scope.names } := by
    generalize ece : compEnvC scope (cellsFrom (s3.heap.objs.size + 1) scope.names (cloFrom X.env.cells scope.names [])) s3.heap.objs.size X.env = ce at I4 pg pt pk pv ⊢
    have cL : ce.locals = s3.heap.objs.size := by rw [← ece]; rfl
    generalize eS4 : ({ s3 with heap := pushCells (s3.heap.push { cls := .type "dict", data := .dict #[] }) scope.names } : Shared) = s4 at I4 ⊢
    have st4 : tn 0 s4.heap := T.keep _ _ _ st3 fun b _ o e => by rw [← eS4]; exact pushCells_keeps _ _ _ _ (Heap.get?_push_of_some _ e)
    have stat : ∀ {σ' : L2.St} {H' : Hp} {s' : Shared}, L2.Inv (X.blk s3 H3 scope ce fp) [] σ' H' s' → (∀ b ∈ fp, H' b = none) → ∀ b ∈ fp, FpOk (X.blk s3 H3 scope ce fp) [] H' b := fun {σ' H' s'} I' hn b hb =>
      ⟨hn b hb, (I'.ok.exf b hb).1, I'.ok.exfs b hb, .inl hb, fun x c e => (I'.ok.exf b hb).2 x c e, fun p hp => by cases hp⟩
    have loop : codeAny (model X.prog X.w) X.A (.compLoop (.DictComp kx vx [⟨tg, iter, ifs, 0⟩] scope pos) 0 (.ref it) (.ref D) ce) (compPost (model X.prog X.w) X.A X.xe none (EP X pins σ Q) (.ref D) s3.heap.objs.size) s4 := by
      refine compLoop_anyD (fun n s' => ∃ i H', L2.Inv (X.blk s3 H3 scope ce fp) [] (wipe σ (own.map (·.2))) H' s' ∧ tn i s'.heap ∧ (∀ b ∈ fp, H' b = none) ∧ W i n H') ?_ m0 ⟨0, H3, I4, st4, fun b hb => (f3 b hb).1.1, w0⟩
      intro n s5 ⟨i, H5, I5, st5, n5, w5⟩
      rcases turn i n H5 w5 with ⟨stop, qq⟩ | ⟨go, Nx, hNx, step⟩
      · refine thnF (T.done (X.blk s3 H3 scope ce fp) rfl rfl rfl hc i [] s5 _ H5 (fun _ _ => False) I5 (stat I5 n5) st5 stop) fun r s6 ⟨hr, I6⟩ => ?_
        subst hr
        have I7 : L2.Inv X pins σ H5 s6 := I3.call' (ch := fp) I6.os I6.base I6.hok I6.bare fun b hb => ⟨(f3 b hb).1.2.2.2.1, (f3 b hb).1.2.1, (f3 b hb).1.2.2.2.2.1, (f3 b hb).1.2.2.2.2.2⟩
        have nC : H5 s3.heap.objs.size = none := cL ▸ (show H5 ce.locals = none from I6.free)
        obtain ⟨m, hn, _⟩ := I6.loc
        refine ⟨m, cL ▸ (show s6.heap.Ns ce.locals m from hn), fun h'' sb => ?_⟩
        obtain ⟨f0, f1, f2', f3', f4, f5⟩ := I3.fpOk (Nat.le_refl _) nC
        exact ⟨.ref D, H5, I7.turned (t' := s6.toks) (fun b o hb e => (sb.2 b hb).trans e) f0 f1 f3' f4 f5, rfl, qq⟩
      · refine thnF (T.item (X.blk s3 H3 scope ce fp) rfl rfl rfl hc i [] s5 _ H5 (fun _ _ => False) I5 (stat I5 n5) st5 go) fun r s6 ⟨u, hr, h6⟩ => ?_
        subst hr
        refine thnF h6 fun _ s7 ⟨x, H7, I7, r7, y7, st7, n7⟩ => ?_
        refine thnF (pg.run _ s7 _ H7 x u _ (I7.pinned (stat I7 n7) (T.obj _ _ st7)) r7 (step x H7 y7)) fun _ s8 ⟨σ8, H8, I8, hw8, q8⟩ => ?_
        refine thnF (pt.run _ s8 σ8 H8 _ I8 q8) fun b s9 ⟨H9, I9, q9⟩ => ?_
        have fin : ∀ {s' : Shared} {H' : Hp}, L2.Inv (X.blk s3 H3 scope ce fp) ([] ++ pinsAt fp s7.heap) σ8 H' s' → Nx H' → ∃ m, m < n ∧ ∃ i H', L2.Inv (X.blk s3 H3 scope ce fp) [] (wipe σ (own.map (·.2))) H' s' ∧ tn i s'.heap ∧ (∀ b ∈ fp, H' b = none) ∧ W i m H' := by
          intro s' H' I' nx
          obtain ⟨m', hm, w'⟩ := hNx H' nx
          have pin' : ∀ b ∈ fp, ∀ o, s7.heap.get? b = some o → s'.heap.get? b = some o ∧ H' b = none := fun b hb o e =>
            let z := I'.pin (b, o) (List.mem_append_right _ (List.mem_append_right _ (mem_pinsAt hb e)))
            ⟨z.1, z.2.1⟩
          refine ⟨m', hm, i + 1, H', (I'.unpinned (pins := [])).weak (by rw [← hw8, wipe_length]) (fun j v e => ?_), T.keep _ _ _ st7 fun b hb o e => (pin' b hb o e).1, fun b hb => ?_, w'⟩
          · rw [← hw8] at e
            exact (wipe_some e).1
          · obtain ⟨o, e, _⟩ := T.obj _ _ st7 b hb
            exact (pin' b hb o e).2
        cases b with
        | false =>
          rw [if_neg Bool.false_ne_true] at q9 ⊢
          exact fin I9 q9
        | true =>
          rw [if_pos rfl] at q9 ⊢
          refine thnF (pk.run _ s9 σ8 H9 _ I9 q9) fun z s10 ⟨yk, H10, I10, r10, q10⟩ => ?_
          refine thnF (pv.run _ s10 σ8 H10 _ I10 q10) fun z2 s11 ⟨yv, H11, I11, r11, kvs, k, ky, hD, hz, nx⟩ => ?_
          refine thn (dic_store (X := X.blk s3 H3 scope ce fp) hu I11 hD ky hz r10 r11 nx) fun _ s12 ⟨H12, I12, q12⟩ => fin I12 q12
    exact codeAny_compStart_dict loop (T.self X.A 0 _ _ _ st4 loop)
  exact goal
end
end Mk


set_option Elab.async false
set_option linter.all false
set_option maxRecDepth 100000
set_option maxHeartbeats 1000000
/-! such dicts: list(d.items()), dict(pairs), next(iter(d), None) -/
namespace Mk
open PySem PySem.Spec PyProof.Rows L2

/-! ### next(iter(d), None) -/
def tNextIter (P : Program) (w : World) (K : PySem.W.Frag) (td : TE) : TE := fun σ H Q => td σ H fun x H1 => ∃ d kvs, x = .ref d ∧ DicR P w K H1 d kvs ∧ ∀ v, (kvs = [] ∧ v = .non ∨ ∃ k z, kvs[0]? = some (k, z) ∧ KyV K H1 k v) → Q v H1
section
variable {X : Cx} {e : Expr} {td : TE} {p p2 q1 q2 pos : Pos} {j : Nat}
theorem pe_nextIter (hc : X.calm = true) (he : PE X e td) (g1 : Gl X "next") (m1 : X.mg "next" = none) (g2 : Gl X "iter") (m2 : X.mg "iter" = none)
    (hs : starEach [.Call (.Name "iter" p2) [e] [] q1, .Constant .none j q2] X.env = [(false, eval (.Call (.Name "iter" p2) [e] [] q1) X.env), (false, eval (.Constant .none j q2) X.env)] := by rfl)
    (hs2 : starEach [.Constant .none j q2] X.env = [(false, eval (.Constant .none j q2) X.env)] := by rfl)
    (hs3 : starEach [e] X.env = (false, eval e X.env) :: starEach [] X.env := by rfl) :
    PE X (.Call (.Name "next" p) [.Call (.Name "iter" p2) [e] [] q1, .Constant .none j q2] [] pos) (tNextIter X.prog X.w X.K td) := by
  refine ⟨fun pins s σ H Q I h => ?_⟩
  refine wpAny_Call_Name_kw (ld_blt (u := .builtin "next") I g1 m1 (by first | rfl | decide +kernel) ?_ (by decide) (by decide))
  refine PyProof.Rows.callWith_builtin1 ?_ (by rw [hs, hs2]) (by rw [hs2]; rfl)
  rw [hs]
  refine Calls.spliced_cons (wpAny_Call_Name_kw (ld_blt (u := .builtin "iter") I g2 m2 (by first | rfl | decide +kernel) (PyProof.Rows.callWith_builtin1 ?_ hs3 rfl) (by decide) (by decide)))
  rw [hs3]
  refine Calls.spliced_cons (thn (he.run pins s σ H _ I h) fun u s1 ⟨x, H1, I1, rx, d, kvs, ex, hd, q⟩ => Calls.spliced_nil ?_)
  subst ex
  obtain rfl : u = Value.ref d := rx
  obtain ⟨xs, hm, hp, z, hb⟩ := dic_of I1 hd
  obtain ⟨es, ep, hr, hsz, hget⟩ := hm.raw
  -- iter(d)
  refine Calls.call_function_entry (by decide +kernel) (by decide +kernel) PySem.W.kdk_entry_iter (PySem.W.kdk_args_iter _) ?_
  unfold Builtin.«iter»
  refine wpAny_bind (m := someArgs "iter" 1 2 _) (wpAny_of_eq (a := [Value.ref d]) (by first | rfl | kernel_rfl!) ?_)
  show wpAny _ _ (pyIter (.ref d) >>= _) _ _ _
  refine wpAny_bind (wpAny_pyIter_dict_raw hb hr (wpAny_pure ⟨_, rfl, ?_⟩))
  -- None, next(it, None)
  refine Calls.spliced_cons (show wpAny _ _ (eval (.Constant .none j q2) X.env) _ _ _ from Constant_none (Calls.spliced_nil ?_))
  have hr2 : (s1.heap.push { cls := .type "dict_keyiterator", data := .fields #[.ref d, .int 0 0, .int es.size 0, .int ep 0] }).DictRaw d es ep := hr.at fun o e => Heap.get?_push_of_some _ e
  have hit : (s1.heap.push { cls := .type "dict_keyiterator", data := .fields #[.ref d, .int 0 0, .int es.size 0, .int ep 0] }).IsKeyIter s1.heap.objs.size d 0 es.size ep := ⟨_, Heap.get?_push_size _ rfl, rfl, rfl⟩
  refine Calls.call_function_entry (by decide +kernel) (by decide +kernel) PySem.W.kdk_entry_next (PySem.W.kdk_args_next2 _ _) ?_
  unfold Builtin.«next»
  refine wpAny_bind (m := someArgs "next" 1 2 _) (wpAny_of_eq (a := [Value.ref s1.heap.objs.size, Value.none]) (by first | rfl | kernel_rfl!) ?_)
  dsimp only
  refine wpAny_bind (wpAny_specialOf (s := { s1 with heap := s1.heap.push { cls := .type "dict_keyiterator", data := .fields #[.ref d, .int 0 0, .int es.size 0, .int ep 0] } }) (name := Str.ofString "__next__") hit.typeIs PySem.F.slot_dict_keyiterator_next.lookup ?_)
  refine wpAny_ite_split (fun hab => absurd hab (by decide)) (fun _ => ?_)
  have keepI : ∀ h', (∀ b o, b ≠ s1.heap.objs.size → (s1.heap.push { cls := .type "dict_keyiterator", data := .fields #[.ref d, .int 0 0, .int es.size 0, .int ep 0] }).get? b = some o → h'.get? b = some o) → L2.Inv X pins σ H1 { s1 with heap := h' } :=
    fun h' k => I1.kept (t' := s1.toks) fun b o e => k b o (Nat.ne_of_lt (Heap.lt_size e)) (Heap.get?_push_of_some _ e)
  by_cases hz : 0 < es.size
  · refine wpAny_bind (wpAny_pyNext_keys_item_raw hit hr2 hz fun h' hit' sb => ?_)
    obtain ⟨x0, hx0⟩ : ∃ x, xs[0]? = some x := ⟨xs[0], List.getElem?_eq_getElem (by omega)⟩
    obtain ⟨p0, hp0⟩ : ∃ p, kvs[0]? = some p := ⟨kvs[0]'(by have := hp.len; omega), List.getElem?_eq_getElem _⟩
    obtain ⟨x1, hx1, e1, e2, y, ry, ky⟩ := hp.at hp0
    rw [hx0] at hx1
    cases hx1
    have ek : es[0].key = x0.2.1 := by
      have q := hget 0
      rw [Array.getElem?_eq_getElem hz, hx0] at q
      rw [Option.some.inj q]
      rfl
    exact wpAny_pure ⟨_, rfl, y, H1, keepI h' fun b o hb e => (sb.2 b hb).trans e, by rw [Option.getD_some, ek]; exact ry, q y (.inr ⟨p0.1, p0.2, hp0, ky⟩)⟩
  · refine wpAny_bind (wpAny_pyNext_keys_end_raw (I1.ok.hd hc) hit hr2 (by omega) fun h' eb => ?_)
    have e0 : kvs = [] := by
      have := hp.len
      cases kvs with
      | nil => rfl
      | cons _ _ => rw [List.length_cons] at this; omega
    exact wpAny_pure ⟨_, rfl, .non, H1, keepI h' fun b o hb e => eb b o hb e, rfl, q .non (.inl ⟨e0, rfl⟩)⟩
end

/-! ### list(d.items()) -/
/-- new tuples laid -/
def layT (H : Hp) (pl : List (Addr × List V)) : Hp := fun b => match pl.lookup b with
  | some vs => some (.tup vs)
  | none => H b
theorem layT_off {H : Hp} {pl : List (Addr × List V)} {b : Addr} (h : b ∉ pl.map (·.1)) : layT H pl b = H b := by
  have e : pl.lookup b = none := by
    rw [List.lookup_eq_none_iff]
    intro p hp
    exact bne_iff_ne.mpr fun (z : b = p.1) => h (by rw [z]; exact List.mem_map_of_mem hp)
  unfold layT
  rw [e]
theorem layT_at {H : Hp} : ∀ {pl : List (Addr × List V)} {p : Addr × List V}, (pl.map (·.1)).Nodup → p ∈ pl → layT H pl p.1 = some (.tup p.2)
  | q :: pl, p, hn, hp => by
    rw [List.map_cons, List.nodup_cons] at hn
    unfold layT
    by_cases e : p.1 = q.1
    · rw [List.lookup_cons]
      rcases List.mem_cons.mp hp with z | z
      · subst z
        simp
      · exact absurd (e ▸ List.mem_map_of_mem z) hn.1
    · rw [List.lookup_cons, show (p.1 == q.1) = false from beq_eq_false_iff_ne.mpr e]
      rcases List.mem_cons.mp hp with z | z
      · exact absurd (by rw [z]) e
      · exact layT_at hn.2 z
theorem layT_some {H : Hp} {pl : List (Addr × List V)} {b : Addr} (h : b ∈ pl.map (·.1)) : ∃ vs, (b, vs) ∈ pl := by
  obtain ⟨p, hp, e⟩ := List.mem_map.mp h
  exact ⟨p.2, by rw [← e]; exact hp⟩
/-- the tuples of entries -/
def tupsOf : List V → List (PK × V) → List (List V)
  | y :: ys, p :: ps => [y, p.2] :: tupsOf ys ps
  | _, _ => []
theorem keysOf {K : PySem.W.Frag} {H : Hp} : ∀ {kvs : List (PK × V)} {xs : List En}, PairE K H kvs xs → ∃ ys : List V, ys.length = kvs.length ∧ ∀ (j : Nat) (p : PK × V), kvs[j]? = some p → ∃ y x, ys[j]? = some y ∧ xs[j]? = some x ∧ L2.RelV y x.2.1 ∧ L2.RelV p.2 x.2.2 ∧ KyV K H p.1 y
  | _, _, .nil => ⟨[], rfl, fun j p e => by simp at e⟩
  | _, _, .cons (a := p) (b := x) ⟨h1, h2, y, h3, h4⟩ t => by
    obtain ⟨ys, e1, e2⟩ := keysOf t
    refine ⟨y :: ys, by rw [List.length_cons, List.length_cons, e1], fun j q e => ?_⟩
    cases j with
    | zero =>
      have e' : p = q := Option.some.inj e
      subst e'
      exact ⟨y, x, rfl, rfl, h3, h2, h4⟩
    | succ i =>
      obtain ⟨y', x', f1, f2, r⟩ := e2 i q (by simpa using e)
      exact ⟨y', x', by simpa using f1, by simpa using f2, r⟩
theorem tupsOf_get : ∀ {ys : List V} {kvs : List (PK × V)} {j : Nat} {y : V} {p : PK × V}, ys[j]? = some y → kvs[j]? = some p → (tupsOf ys kvs)[j]? = some [y, p.2]
  | [], _, _, _, _, h, _ => by simp at h
  | _ :: _, [], _, _, _, _, h => by simp at h
  | y' :: ys, p' :: kvs, 0, y, p, h1, h2 => by
    have e1 : y' = y := Option.some.inj h1
    have e2 : p' = p := Option.some.inj h2
    subst e1 e2
    rfl
  | y' :: ys, p' :: kvs, j + 1, y, p, h1, h2 => tupsOf_get (ys := ys) (kvs := kvs) (j := j) h1 h2
theorem tupsOf_len : ∀ {ys : List V} {kvs : List (PK × V)}, ys.length = kvs.length → (tupsOf ys kvs).length = kvs.length
  | [], [], _ => rfl
  | [], _ :: _, h => by cases h
  | _ :: _, [], h => by cases h
  | _ :: ys, _ :: kvs, h => by
    show (tupsOf ys kvs).length + 1 = kvs.length + 1
    rw [tupsOf_len (Nat.succ.inj h)]
def rItems (P : Program) (w : World) (K : PySem.W.Frag) : V → Hp → VK → Prop := fun x H Q => ∃ d kvs, x = .ref d ∧ DicR P w K H d kvs ∧
  ∀ (H' : Hp) (p : Addr) (ts : List Addr), (∀ b o, H b = some o → H' b = some o) → H p = none → H' p = some (.lst (ts.map V.ref)) → ts.length = kvs.length →
    (∀ (j : Nat) (t : Addr) (q : PK × V), ts[j]? = some t → kvs[j]? = some q → ∃ y, H' t = some (.tup [y, q.2]) ∧ KyV K H q.1 y) → Q (.ref p) H'
def tItems (P : Program) (w : World) (K : PySem.W.Frag) (te : TE) : TE := fun σ H Q => te σ H fun x H1 => rItems P w K x H1 Q
section
variable {X : Cx} {e : Expr} {te : TE} {p apos cpos pos : Pos}
theorem pe_items (hc : X.calm = true) (he : PE X e te) (hg : Gl X "list") (hm : X.mg "list" = none) (hv : bootBuiltins "list" = some (.type "list")) (hbase : attributeBase e "items" X.env (eval e X.env) = eval e X.env := by rfl) (hline : (apos.endLine == cpos.line) = true := by rfl)
    (hs : starEach [.Call (.Attribute e "items" apos) [] [] cpos] X.env = (false, eval (.Call (.Attribute e "items" apos) [] [] cpos) X.env) :: starEach [] X.env := by rfl) :
    PE X (.Call (.Name "list" p) [.Call (.Attribute e "items" apos) [] [] cpos] [] pos) (tItems X.prog X.w X.K te) := by
  refine ⟨fun pins s σ H Q I hq => ?_⟩
  refine wpAny_Call_Name_kw (ld_blt I hg hm hv (PyProof.Rows.callWith_type1 ?_ hs rfl))
  rw [hs]
  refine Calls.spliced_cons (wpAny_Call_method (T := "dict") (id := "dict.items") hbase rfl hline F.plainAttrs_dict F.slot_dict_items F.type_dict_items (thn (he.run pins s σ H _ I hq) fun u s1 ⟨x, H1, I1, rx, d, kvs, ex, hd, q⟩ => ?_))
  subst ex
  obtain rfl : u = Value.ref d := rx
  obtain ⟨xs, hdo, hp, hz, hb⟩ := dic_of I1 hd
  obtain ⟨es, ep, hr, hsz, hget⟩ := hdo.raw
  have hlen := hp.len
  have I2 : L2.Inv X pins σ H1 { s1 with heap := s1.heap.push { cls := .type "dict_items", data := .fields #[.ref d] } } := I1.kept (t' := s1.toks) fun b ob q => Heap.get?_push_of_some _ q
  refine ⟨hdo.ty, fun b eb => ?_, ?_⟩
  · cases eb
    obtain ⟨o, _, _, h1, h2, _⟩ := hdo
    exact ⟨o, h1, h2.2.1⟩
  show wpAny _ _ (callWith cpos (.builtin "dict.items") [.ref d] [] []) _ X.xe s1
  refine method_meetsIn F.slot_dict_items F.entry_dict_items rfl (PySem.evalArgs_none ⟨rfl, hdo.ty, F.args_dict_items_1 _, _, meets_dict_items_raw d hb, ⟨es, ep, hr⟩, ?_⟩)
  refine Calls.spliced_nil ?_
  refine PySem.W.dil_call (es := es) (ep := ep) (I1.ok.hd hc) ⟨_, Heap.get?_push_size _ rfl, rfl, rfl⟩ (hr.at fun o e => Heap.get?_push_of_some _ e) (by omega) fun h' tk acc c as hk hS hl hG hacc => ?_
  obtain ⟨ys, ely, hys⟩ := keysOf hp
  generalize eS : (s1.heap.push { cls := .type "dict_items", data := .fields #[.ref d] }).objs.size = S at hS hG
  have nS : H1 S = none := I2.hok.fresh (Nat.le_of_eq eS)
  have nT : ∀ t ∈ as, H1 t = none := fun t ht => I2.hok.fresh (by rw [eS]; exact Nat.le_of_lt (hG.above t ht))
  have Sas : S ∉ as := fun z => Nat.lt_irrefl _ (hG.above _ z)
  have nd : as.Nodup := List.Pairwise.imp (fun {a b} (h : a < b) => Nat.ne_of_lt h) hG.rise
  have lt := tupsOf_len ely
  have fst : (as.zip (tupsOf ys kvs)).map (·.1) = as := List.map_fst_zip (by omega)
  have ndz : ((as.zip (tupsOf ys kvs)).map (·.1)).Nodup := by rw [fst]; exact nd
  -- the heap with the list and the tuples
  have off : ∀ b, b ∉ as → b ≠ S → layT (upd H1 S (.lst (as.map V.ref))) (as.zip (tupsOf ys kvs)) b = H1 b := fun b h1 h2 => by rw [layT_off (by rw [fst]; exact h1), upd_ne h2]
  have eL : layT (upd H1 S (.lst (as.map V.ref))) (as.zip (tupsOf ys kvs)) S = some (.lst (as.map V.ref)) := by rw [layT_off (by rw [fst]; exact Sas), upd_same]
  have kp : ∀ b u, H1 b = some u → layT (upd H1 S (.lst (as.map V.ref))) (as.zip (tupsOf ys kvs)) b = some u := fun b u e => by
    rw [off b (fun z => by rw [nT b z] at e; cases e) (fun z => by rw [z, nS] at e; cases e)]
    exact e
  have atT : ∀ (j : Nat) (t : Addr) (q : PK × V), as[j]? = some t → kvs[j]? = some q → ∃ y x, layT (upd H1 S (.lst (as.map V.ref))) (as.zip (tupsOf ys kvs)) t = some (.tup [y, q.2]) ∧ KyV X.K H1 q.1 y ∧ xs[j]? = some x ∧ L2.RelV y x.2.1 ∧ L2.RelV q.2 x.2.2 := fun j t q h1 h2 => by
    obtain ⟨y, x, f1, f2, f3, f4, f5⟩ := hys j q h2
    have m : (t, [y, q.2]) ∈ as.zip (tupsOf ys kvs) := List.mem_of_getElem? (i := j) (by rw [List.getElem?_zip_eq_some]; exact ⟨h1, tupsOf_get f1 h2⟩)
    exact ⟨y, x, layT_at ndz m, f5, f2, f3, f4⟩
  have low : ∀ b o, (s1.heap.push { cls := .type "dict_items", data := .fields #[.ref d] }).get? b = some o → b ∉ as ∧ b ≠ S := fun b o e =>
    have l : b < S := eS ▸ Heap.lt_size e
    ⟨fun z => Nat.lt_asymm l (hG.above b z), Nat.ne_of_lt l⟩
  refine ⟨.ref S, layT (upd H1 S (.lst (as.map V.ref))) (as.zip (tupsOf ys kvs)), ?_, rfl, q _ S as kp nS eL (by omega) fun j t r h1 h2 => let ⟨y, _, a, b, _⟩ := atT j t r h1 h2; ⟨y, a, b⟩⟩
  refine I2.call' (ch := []) rfl ⟨fun b o q _ _ _ => hk b o q, fun b o q _ _ _ => ⟨o.slots, hk b o q⟩, fun b o q n _ => ?_, fun b o q _ => ⟨o, hk b o q⟩, fun b xs q => kp b _ q, fun b o u q => kp b _ q, fun b ps q => ⟨#[], by rw [kp b _ q]; simp⟩⟩ (fun b u q => ?_) I2.bare fun b z => by simp at z
  · obtain ⟨z1, z2⟩ := low b o q
    rw [off b z1 z2]
    exact n
  · by_cases hb1 : b ∈ as
    · obtain ⟨j, hj⟩ := List.mem_iff_getElem?.mp hb1
      have jl := (List.getElem?_eq_some_iff.mp hj).1
      obtain ⟨r, hr'⟩ : ∃ r, kvs[j]? = some r := ⟨kvs[j]'(by omega), List.getElem?_eq_getElem _⟩
      obtain ⟨y, x, a1, a2, a3, a4, a5⟩ := atT j b r hj hr'
      rw [a1] at q
      cases q
      obtain ⟨hj', f⟩ := hG.pairs j b hj
      have ee : es[j] = entP X.prog X.w x := by
        have z := hget j
        rw [Array.getElem?_eq_getElem hj', a3] at z
        exact Option.some.inj z
      rw [ee] at f
      exact ⟨by show 2 ≤ sizeLine; decide, [x.2.1, x.2.2], .cons a4 (.cons a5 .nil), ⟨_, f, rfl, _, rfl⟩⟩
    · by_cases hb2 : b = S
      · subst hb2
        rw [eL] at q
        cases q
        refine ⟨by rw [List.length_map]; omega, acc.toList, c, by rw [hacc]; exact LiI.vals_refs as, ?_⟩
        rw [Array.toArray_toList]
        exact hS
      · rw [off b hb1 hb2] at q
        exact (I2.hok b u q).stay (fun d v _ y => hk d v y) (fun d y => kp d _ y) fun d xs y => kp d _ y
end
end Mk


set_option Elab.async false
set_option linter.all false
set_option maxRecDepth 100000
set_option maxHeartbeats 1000000
/-! such dicts: dict(pairs) -/
namespace Mk
open PySem PySem.Spec PyProof.Rows L2

/-- later pairs win, at the first one's place -/
def mergeP (acc : List (PK × V)) (l : List (PK × V)) : List (PK × V) := l.foldl (fun a p => putK a p.1 p.2) acc
def mergeE (acc : List En) (l : List En) : List En := l.foldl (fun a p => putE a p.1 p.2.1 p.2.2) acc
theorem mergeP_len (l : List (PK × V)) : ∀ acc, (mergeP acc l).length ≤ acc.length + l.length := by
  induction l with
  | nil => intro acc; exact Nat.le_refl _
  | cons p r ih =>
    intro acc
    have h1 := ih (putK acc p.1 p.2)
    have h2 := length_putK acc p.1 p.2
    show (mergeP (putK acc p.1 p.2) r).length ≤ _
    rw [List.length_cons]
    omega
section
variable {P : Program} {w : World} {A : Around} {E : Value → Shared → Prop}
theorem pairs_loop {R : Result → Shared → Prop} {S I l : Addr} {items : Array Value} {res : Value} (hu : A.in1.units < cLine) (hh : A.handled = none) (hlI : l ≠ I) (hSI : S ≠ I) (hSl : S ≠ l) :
    ∀ (rest : List En) (i : Nat) (acc : List En) (ix : Int) (t : Tok) (s : Shared), items.size = i + rest.length → acc.length + rest.length ≤ sizeLine →
      (∀ (j : Nat) (q : En), rest[j]? = some q → ∃ b : Addr, items[i + j]? = some (.ref b) ∧ b ≠ S ∧ b ≠ I ∧ IsTup s.heap b #[q.2.1, q.2.2] ∧ isP P w s.heap q.1 q.2.1) →
      s.heap.IsListIter I l i → s.heap.IsList l items → DOf P w s.heap S acc →
      (∀ h' tk, DOf P w h' S (mergeE acc rest) → (∀ b o, b ≠ S → b ≠ I → s.heap.get? b = some o → h'.get? b = some o) → R (.ok (.ret res)) { s with heap := h', toks := tk }) →
      codeAny (model P w) A (.builtin "dict.update.loop" ⟨[.ref S, .ref I, .int ix t, res], []⟩) R s := by
  intro rest
  induction rest with
  | nil =>
    intro i acc ix t s hsz hln ht hit hl hm hR
    refine codeAny_builtin ud_entry ?_
    rw [Around.under_plainId ud_plain _]
    show wpAny _ A.in1 (pyNext (.ref I) >>= _) _ _ s
    refine wpAny_bind (wpAny_pyNext_list_end (A := A.in1) hh hit hl (Array.getElem?_eq_none (Nat.le_of_eq (by simpa using hsz))) fun h' he => ?_)
    show wpAny _ A.in1 (Builtin.Dict.addKeywords S [] >>= _) _ _ _
    refine wpAny_bind (wpAny_pure (wpAny_pure (hR h' s.toks ?_ fun b o _ hb e => he b o hb e)))
    obtain ⟨o, es, ep, h1, h2, h3, h4, h5, h6⟩ := hm
    obtain ⟨oi, hoi, hci, hdi⟩ := id hit
    refine ⟨o, es, ep, he S o hSI h1, h2, h3, h4, fun x hx => ?_, h6⟩
    have q := h5 x hx
    cases hx1 : x.1 with
    | inl j =>
      rw [hx1] at q
      exact q
    | inr ks =>
      rw [hx1] at q
      obtain ⟨a, e1, o1, its, n, k1, k2, k3, k4⟩ := q
      refine ⟨a, e1, o1, its, n, he a o1 (fun z => ?_) k1, k2, k3, k4⟩
      subst z
      rw [hoi] at k1
      cases k1
      rw [hdi] at k3
      cases k3
  | cons q rest ih =>
    intro i acc ix t s hsz hln ht hit hl hm hR
    obtain ⟨b, hb, hbS, hbI, htup, hk⟩ := ht 0 q rfl
    rw [List.length_cons] at hsz hln
    refine codeAny_builtin ud_entry ?_
    rw [Around.under_plainId ud_plain _]
    show wpAny _ A.in1 (pyNext (.ref I) >>= _) _ _ s
    refine wpAny_bind (wpAny_pyNext_list_item (x := .ref b) hit hl (by simpa using hb) fun h1 hit1 hs1 => ?_)
    obtain ⟨oi, hoi, hci, hdi⟩ := id hit
    -- the iterator alone has turned
    have keepP : ∀ {k : PK} {v : Value}, isP P w s.heap k v → isP P w h1 k v := fun {k v} x => by
      cases k with
      | inl j => exact x
      | inr ks =>
        obtain ⟨a, e1, o1, its, n, k1, k2, k3, k4⟩ := x
        refine ⟨a, e1, o1, its, n, (hs1.2 a fun z => ?_).trans k1, k2, k3, k4⟩
        subst z
        rw [hoi] at k1
        cases k1
        rw [hdi] at k3
        cases k3
    have ht1 : IsTup h1 b #[q.2.1, q.2.2] := htup.extBut hs1.extBut hbI
    have hl1 : h1.IsList l items := hl.extBut hs1.extBut hlI
    have hm1 : DOf P w h1 S acc := by
      obtain ⟨o, es, ep, a1, a2, a3, a4, a5, a6⟩ := hm
      exact ⟨o, es, ep, (hs1.2 S hSI).trans a1, a2, a3, a4, fun x hx => keepP (a5 x hx), a6⟩
    obtain ⟨o, ho, hc, n, hd⟩ := id ht1
    show wpAny _ A.in1 (holding [Value.ref b] _ >>= _) _ _ _
    refine wpAny_bind (wpAny_holding (wpAny_bind (wpAny_tryCatch ?_)))
    unfold Builtin.Dict.pairItems
    refine wpAny_bind (wpAny_typeOf (T := "tuple") ⟨o, ho, hc⟩ ?_)
    rw [if_pos (by first | decide | rfl | simp)]
    refine wpAny_bind (wpAny_seqItems ho hd (wpAny_pure ?_))
    show wpAny _ A.in1 (holding [q.2.1, q.2.2] (dictSet S q.2.1 q.2.2)) _ _ _
    have hsS : S ≠ b := Ne.symm hbS
    obtain ⟨oS, esS, epS, b1, b2, b3, _⟩ := id hm1
    refine wpAny_holding (set_P (k := q.1) hu (keepP hk) hm1 (by omega) (fun h2 hm2 hs2 => ?_))
    refine wpAny_pure ⟨plainId_quiet ud_plain _, ih (i + 1) (putE acc q.1 q.2.1 q.2.2) (ix + 1) 0 _ (show items.size = i + 1 + rest.length by omega) ?_ (fun j q' e => ?_) ?_ ?_ hm2 fun h' tk hd' k => ?_⟩
    · have z := putE_len acc q.1 q.2.1 q.2.2
      omega
    · obtain ⟨b', hb', hbS', hbI', htup', hk'⟩ := ht (j + 1) q' (by simpa using e)
      refine ⟨b', ?_, hbS', hbI', (htup'.extBut hs1.extBut hbI').extBut hs2.extBut hbS', isP_keeps (keepP hk') b1 b3 hs2⟩
      rw [show i + 1 + j = i + (j + 1) by omega]
      exact hb'
    · exact hit1.at fun o' e => hs2.extBut I o' (Ne.symm hSI) e
    · exact hl1.extBut hs2.extBut (Ne.symm hSl)
    · exact hR h' tk hd' fun c oc h3 h4 e => k c oc h3 h4 (hs2.extBut c oc h3 (hs1.extBut c oc h4 e))
theorem dict_pairs {s : Shared} {l : Addr} {ol : Obj} {items : Array Value} {n : Nat} {prs : List En} {Q : Value → Shared → Prop} (hu : A.units + 3 < cLine) (hh : A.handled = none) (hl : s.heap.get? l = some ol) (hc : ol.cls = .type "list") (hd : ol.dict = none)
    (hdat : ol.data = .seq items n) (hsz : items.size = prs.length) (hln : prs.length ≤ sizeLine)
    (ht : ∀ (j : Nat) (q : En), prs[j]? = some q → ∃ b : Addr, items[j]? = some (.ref b) ∧ IsTup s.heap b #[q.2.1, q.2.2] ∧ isP P w s.heap q.1 q.2.1)
    (hq : ∀ h' tk, DOf P w h' s.heap.objs.size (mergeE [] prs) → (∀ b o, s.heap.get? b = some o → h'.get? b = some o) → Q (.ref s.heap.objs.size) { s with heap := h', toks := tk }) :
    wpAny (model P w) A (call (.type "dict") [.ref l]) Q E s := by
  refine callType_codes (Q₁ := fun obj s₁ => obj = .ref s.heap.objs.size ∧ s₁ = { s with heap := s.heap.push { cls := .type "dict", data := .dict #[] } }) PySem.F.kt_called_dict (PySem.F.kt_typeCall_dict_1 _) PySem.F.entry_dict_init (kt_code_dict_new _ ⟨rfl, rfl⟩) ?_
  intro obj s₁ ⟨e1, e2⟩
  subst e1 e2
  have hnew : DOf P w (s.heap.push { cls := .type "dict", data := .dict #[] }) s.heap.objs.size [] := DOf.new s.heap
  have k0 : ∀ b o, s.heap.get? b = some o → (s.heap.push { cls := .type "dict", data := .dict #[] }).get? b = some o := fun b o e => Heap.get?_push_of_some _ e
  have tyN : ({ s with heap := s.heap.push { cls := .type "dict", data := .dict #[] } } : Shared).TypeIs (.ref s.heap.objs.size) "dict" := DOf.ty (s := { s with heap := s.heap.push { cls := .type "dict", data := .dict #[] } }) hnew
  refine ⟨tyN, PySem.F.args_dict_init_2 _ _, ?_⟩
  unfold Builtin.«dict.__init__»
  refine wpAny_bind ?_
  unfold Builtin.Dict.selfAndRest
  refine wpAny_bind (wpAny_notOrdered_dict tyN ?_)
  show wpAny _ _ (pure (s.heap.objs.size, [Value.ref l])) _ _ _
  refine wpAny_pure ?_
  show wpAny _ _ (Builtin.Dict.updateFrom "dict.__init__" s.heap.objs.size (.ref l) [] .none) _ _ _
  unfold Builtin.Dict.updateFrom
  refine wpAny_bind (wpAny_typeOf (T := "list") ⟨ol, k0 _ _ hl, hc⟩ ?_)
  rw [if_pos (by first | decide | rfl | simp)]
  refine wpAny_bind (miss_list (k0 _ _ hl) hc hdat hd hh fun h1 tk1 hk1 => ?_)
  rw [if_pos (show (none : Option Value).isNone = true from rfl)]
  refine wpAny_bind (wpAny_rule ?_)
  have hl1 : h1.IsList l items := ⟨ol, hk1 _ _ (k0 _ _ hl), hc, n, hdat⟩
  have hS1 : s.heap.objs.size < h1.objs.size := Heap.lt_size (hk1 _ _ (Heap.get?_push_size (o := { cls := .type "dict", data := .dict #[] }) _ rfl))
  refine wpAny_bind (wpAny_pyIter_list hl1 ?_)
  have k2 : ∀ b o, h1.get? b = some o → (h1.push { cls := .type "list_iterator", data := .fields #[.ref l, .int 0 0] }).get? b = some o := fun b o e => Heap.get?_push_of_some _ e
  have k3 : ∀ b o, s.heap.get? b = some o → (h1.push { cls := .type "list_iterator", data := .fields #[.ref l, .int 0 0] }).get? b = some o := fun b o e => k2 _ _ (hk1 _ _ (k0 _ _ e))
  have hlt : l < s.heap.objs.size := Heap.lt_size hl
  have hN : DOf P w (h1.push { cls := .type "list_iterator", data := .fields #[.ref l, .int 0 0] }) s.heap.objs.size [] := by
    obtain ⟨o, es, ep, a1, a2, a3, a4, a5, a6⟩ := hnew
    exact ⟨o, es, ep, k2 _ _ (hk1 _ _ a1), a2, a3, a4, (fun x hx => by cases hx), a6⟩
  have key := pairs_loop (P := P) (w := w) (A := A.in1) (R := wants (fun r s₂ => r = .none ∧ Q (.ref s.heap.objs.size) s₂) E) (S := s.heap.objs.size) (I := h1.objs.size) (l := l) (items := items) (res := Value.none) (by show A.units + 1 + 1 < cLine; omega) hh
    (Nat.ne_of_lt (Nat.lt_trans hlt hS1)) (Nat.ne_of_lt hS1) (Nat.ne_of_gt hlt) prs 0 [] 0 0
    { s with heap := h1.push { cls := .type "list_iterator", data := .fields #[.ref l, .int 0 0] }, toks := tk1 } (by rw [hsz, Nat.zero_add]) (by rw [List.length_nil, Nat.zero_add]; exact hln)
    (fun j q e => by
      obtain ⟨b, e1, e2, e3⟩ := ht j q e
      have hb : b < s.heap.objs.size := e2.lt
      exact ⟨b, by rw [Nat.zero_add]; exact e1, Nat.ne_of_lt hb, Nat.ne_of_lt (Nat.lt_trans hb hS1), e2.keeps fun c o z => k3 _ _ z, isP_kept e3 fun c o vs n z _ => k3 _ _ z⟩)
    ⟨_, Heap.get?_push_size _ rfl, rfl, rfl⟩ (hl1.at fun o e => k2 _ _ e) hN
    (fun h' tk hd' k => ⟨rfl, hq h' tk hd' fun b o e => k b o (Nat.ne_of_lt (Heap.lt_size e)) (Nat.ne_of_lt (Nat.lt_trans (Heap.lt_size e) hS1)) (k3 _ _ e)⟩)
  first
    | exact wpAny_pure ⟨plainId_quiet ud_plain _, key⟩
    | exact wpAny_bind (wpAny_pure (wpAny_pure ⟨plainId_quiet ud_plain _, key⟩))
end

theorem PairE.merge {K : PySem.W.Frag} {H : Hp} : ∀ {l : List (PK × V)} {xs : List En}, PairE K H l xs → ∀ {acc : List (PK × V)} {ys : List En}, PairE K H acc ys → PairE K H (mergeP acc l) (mergeE ys xs)
  | _, _, .nil, _, _, r => r
  | _, _, .cons ⟨h1, h2, y, h3, h4⟩ t, acc, ys, r => by
    have q := r.put h4 h3 h2
    rw [h1] at q
    have z := PairE.merge t q
    show PairE _ _ (mergeP (putK acc _ _) _) (mergeE (putE ys _ _ _) _)
    rw [h1]
    exact z
section
variable {X : Cx}
theorem pairs_are {pins : List (Addr × Obj)} {σ : L2.St} {H : Hp} {s : Shared} (I : L2.Inv X pins σ H s) : ∀ {ps : List Addr} {kvs : List (PK × V)}, Paired (fun p kv => ∃ y, SqT X.K H p [y, kv.2] ∧ KyV X.K H kv.1 y) ps kvs →
    ∃ prs : List En, PairE X.K H kvs prs ∧ prs.length = ps.length ∧ ∀ (j : Nat) (q : En), prs[j]? = some q → ∃ b : Addr, ps[j]? = some b ∧ IsTup s.heap b #[q.2.1, q.2.2] ∧ isP X.prog X.w s.heap q.1 q.2.1
  | _, _, .nil => ⟨[], .nil, rfl, fun j q e => by simp at e⟩
  | _, _, .cons (a := p) (b := kv) ⟨y, h, ky⟩ t => by
    obtain ⟨prs, r, hl, hp⟩ := pairs_are I t
    obtain ⟨its, rv, ht, _⟩ := I.tuple h
    obtain ⟨u, z, ei, ru, rz⟩ := vals2 rv
    subst ei
    refine ⟨(kv.1, u, z) :: prs, .cons ⟨rfl, rz, y, ru, ky⟩ r, by rw [List.length_cons, List.length_cons, hl], fun j q e => ?_⟩
    cases j with
    | zero =>
      have e' := Option.some.inj (show some (kv.1, u, z) = some q from e)
      subst e'
      exact ⟨p, rfl, ht, isP_of I ky ru⟩
    | succ j =>
      obtain ⟨b, e1, e2, e3⟩ := hp j q (by simpa using e)
      exact ⟨b, by simpa using e1, e2, e3⟩
/-- dict(xs), xs a list of pairs -/
def rDictP (P : Program) (w : World) (K : PySem.W.Frag) : List V → Hp → VK → Prop := fun vs H Q => ∃ (a : Addr) (ps : List Addr) (kvs : List (PK × V)), vs = [.ref a] ∧ SqL K H a (ps.map V.ref) ∧ Paired (fun p kv => ∃ y, SqT K H p [y, kv.2] ∧ KyV K H kv.1 y) ps kvs ∧
  ∀ p u, H p = none → DicW P w K (upd H p u) p (mergeP [] kvs) → Q (.ref p) (upd H p u)
theorem call_dictPP (hu : X.A.units + 3 < cLine) (hcalm : X.calm = true) : CallR X (.type "dict") (rDictP X.prog X.w X.K) := by
  intro pins s σ H vs us Q I r ⟨a, ps, kvs, ex, hq, hp, q⟩
  subst ex
  obtain ⟨u, eu, rx⟩ := vals1 r
  subst eu
  cases rx
  obtain ⟨its, rv, pl, hz⟩ := I.list hq
  have ei := refs_at rv
  subst ei
  rw [List.length_map] at hz
  obtain ⟨prs, rel, hl, hpr⟩ := pairs_are I hp
  obtain ⟨o, n, ho, hc, hd, hdat⟩ := pl
  refine dict_pairs (prs := prs) hu (I.ok.hd hcalm) ho hc hd hdat (by simp [hl]) (by rw [hl]; exact hz) (fun j q' e => ?_) fun h' tk hd' k => ?_
  · obtain ⟨b, e1, e2, e3⟩ := hpr j q' e
    exact ⟨b, by simp [e1], e2, e3⟩
  · have hm : (s.heap.objs.size == sysModules) = false := beq_eq_false_iff_ne.mpr (Nat.ne_of_gt I.big)
    have hf := I.hok.fresh (Nat.le_refl s.heap.objs.size)
    have pe : PairE X.K H (mergeP [] kvs) (mergeE [] prs) := rel.merge .nil
    have hlen : (mergeE [] prs).length ≤ sizeLine := by
      have h1 := mergeP_len kvs []
      have h2 := pe.len
      have h3 := rel.len
      rw [List.length_nil] at h1
      omega
    exact ⟨.ref s.heap.objs.size, _, I.laid (t' := tk) k (Nat.le_refl _) (raw_ok hlen hm hd'), rfl, q _ _ hf ⟨_, upd_same, pe.keep (Tk.new hf)⟩⟩
end
end Mk


set_option Elab.async false
set_option linter.all false
set_option maxRecDepth 100000
set_option maxHeartbeats 1000000
/-! powers of great numbers, a list beside an empty one, sorted data -/
namespace Mk
open PySem PySem.Spec PyProof.Rows L2

section
variable {X : Cx}
/-- a ** b, the answer of at most 2 ^ 27 bits -/
theorem op_powB : OpR X (binaryOp .Pow) (rI (fun i j => 0 ≤ j ∧ (Builtin.Int.intBits i : Int) * j ≤ 2 ^ 27) fun i j => .int (i ^ j.toNat)) := opI fun _ _ _ _ _ _ _ hc q => pow_int hc.1 hc.2 q
/-- xs == [], xs != [] -/
def rEqE (K : PySem.W.Frag) : R2 := fun x y H Q => ∃ a b xs, x = .ref a ∧ y = .ref b ∧ SqL K H a xs ∧ SqL K H b [] ∧ Q (.bl xs.isEmpty) H
def rNeE (K : PySem.W.Frag) : R2 := fun x y H Q => ∃ a b xs, x = .ref a ∧ y = .ref b ∧ SqL K H a xs ∧ SqL K H b [] ∧ Q (.bl (!xs.isEmpty)) H
theorem op_eqE (hu : X.A.units < cLine) : OpR X (compareOp .Eq) (rEqE X.K) := by
  intro pins s σ H x y v u Q I rx ry ⟨a, b, xs, e1, e2, h1, h2, q⟩
  subst e1 e2
  obtain rfl : v = Value.ref a := rx
  obtain rfl : u = Value.ref b := ry
  obtain ⟨i1, r1, p1, _⟩ := I.list h1
  obtain ⟨i2, r2, p2, _⟩ := I.list h2
  cases r2
  cases r1 with
  | nil => exact (SeqAt.RcAt.lists (e := fun _ => true) p1.isList p2.isList rfl hu fun j h _ => absurd h (Nat.not_lt_zero _)) _ _ _ _ ⟨.bl true, H, I, rfl, q⟩
  | cons r t => exact (SeqAt.RcAt.lists_lengths p1.isList p2.isList (by simp) hu) _ _ _ _ ⟨.bl false, H, I, rfl, q⟩
theorem op_neE (hu : X.A.units < cLine) : OpR X (compareOp .NotEq) (rNeE X.K) := by
  intro pins s σ H x y v u Q I rx ry ⟨a, b, xs, e1, e2, h1, h2, q⟩
  subst e1 e2
  obtain rfl : v = Value.ref a := rx
  obtain rfl : u = Value.ref b := ry
  obtain ⟨i1, r1, p1, _⟩ := I.list h1
  obtain ⟨i2, r2, p2, _⟩ := I.list h2
  cases r2
  cases r1 with
  | nil => exact (SeqAt.RcNeAt.lists (e := fun _ => true) p1.isList p2.isList rfl hu fun j h _ => absurd h (Nat.not_lt_zero _)) _ _ _ _ ⟨.bl false, H, I, rfl, q⟩
  | cons r t => exact (SeqAt.RcNeAt.lists_lengths p1.isList p2.isList (by simp) hu) _ _ _ _ ⟨.bl true, H, I, rfl, q⟩

/-- sorted(xs), xs data of one kind -/
def rSortD (K : PySem.W.Frag) : List V → Hp → VK → Prop := fun vs H Q => ∃ (a : Addr) (bs : List (V × PyData)), vs = [.ref a] ∧ SqL K H a (bs.map (·.1)) ∧ (∀ b ∈ bs, Dp K H b.1 b.2 ∧ b.2.depth ≤ 8) ∧
  PySem.W.AllAlike (bs.map (·.2)) ∧ PySem.W.Sortable (bs.map (·.2)) ∧ ∀ p, H p = none → Q (.ref p) (upd H p (.lst ((bs.mergeSort (PySem.W.dataLe false Prod.snd)).map (·.1))))
theorem each_of {K : PySem.W.Frag} : ∀ {bs : List (V × PyData)} {us : List Value}, Vals (bs.map (·.1)) us → PySem.W.EachIs (fun v (b : V × PyData) => L2.RelV b.1 v) us bs
  | [], _, r => by rw [List.map_nil] at r; cases r; exact .nil
  | b :: bs, _, r => by
    rw [List.map_cons] at r
    cases r with
    | cons h t => exact .cons h (each_of (K := K) t)
theorem of_each : ∀ {bs : List (V × PyData)} {us : List Value}, PySem.W.EachIs (fun v (b : V × PyData) => L2.RelV b.1 v) us bs → Vals (bs.map (·.1)) us
  | _, _, .nil => .nil
  | _, _, .cons h t => .cons h (of_each t)
theorem each_reads {pins : List (Addr × Obj)} {σ : L2.St} {H : Hp} {s : Shared} (I : L2.Inv X pins σ H s) : ∀ {bs : List (V × PyData)} {us : List Value}, (∀ b ∈ bs, Dp X.K H b.1 b.2 ∧ b.2.depth ≤ 8) → Vals (bs.map (·.1)) us →
    PySem.W.EachIs (fun v (b : V × PyData) => ∃ as, Reads s.heap v b.2 as) us bs
  | [], us, _, r => by rw [List.map_nil] at r; cases r; exact .nil
  | b :: bs, us, h, r => by
    rw [List.map_cons] at r
    cases r with
    | cons h1 t => exact .cons (Dp.reads I b.2 b.1 _ (h b List.mem_cons_self).1 h1) (each_reads I (fun c hc => h c (List.mem_cons_of_mem _ hc)) t)
theorem call_sortD (hu : X.A.units + 20 < cLine) : CallR X (.builtin "sorted") (rSortD X.K) := by
  intro pins s σ H vs us Q I r ⟨a, bs, e, hS, hd, ha, hs, q⟩
  subst e
  obtain ⟨u, eu, rx⟩ := vals1 r
  subst eu
  obtain rfl : u = .ref a := rx
  obtain ⟨its, rv, pl, hz⟩ := I.list hS
  have er := each_reads I hd rv
  rw [List.length_map] at hz
  refine PySem.W.sorted_data (R := fun v (b : V × PyData) => L2.RelV b.1 v) (enc := Prod.snd) pl.isList (each_of (K := X.K) rv) er ha hs hz (fun b hb => by have := (hd b hb).2; omega) fun out hl ho => ?_
  have hf : H (s.heap.objs.size + 1) = none := I.hok.fresh (Nat.le_succ _)
  obtain ⟨c, hc⟩ := sortedAll_at s.heap its out.toArray
  refine ⟨.ref (s.heap.objs.size + 1), _, I.laid (t' := s.toks) (fun b o e => sortedAll_old e) (Nat.le_succ _) ?_, rfl, q _ hf⟩
  exact ⟨by rw [List.length_map, List.length_mergeSort]; exact hz, out, c, of_each ho, hc⟩
end
end Mk


set_option Elab.async false
set_option linter.all false
set_option maxRecDepth 100000
set_option maxHeartbeats 2000000
/-! for i, x in enumerate(t), t a tuple -/
namespace Mk
open PySem PySem.Spec PyProof.Rows L2
open AutoSeq1 (wpAny_loadPart')

theorem enum_new1 {v : Value} {o : Obj} {T : Heap → Prop} (B : Begins v o T) :
    Meets (Builtin.«enumerate.__new__» ⟨[.type "enumerate", v], []⟩) (fun _ R s => T s.heap ∧
      R (.ok (.ret (.ref (s.heap.push o).objs.size))) { s with heap := (s.heap.push o).push { cls := .type "enumerate", data := .fields #[.none, .bool false, .ref s.heap.objs.size, rawInt 0, .none, .none] } }) :=
  .of_wp fun prog w A R s h => by
    obtain ⟨hp, g, d, tk, os⟩ := s
    obtain ⟨h1, h⟩ := h
    have hsub := sub_enumerate
    have q1 : ∀ {A' : Around} {E : Value → Shared → Prop} {Q : Value → Shared → Prop}, Q (.ref hp.objs.size) ⟨hp.push o, g, d, tk, os⟩ → wpAny (model prog w) A' (pyIter v) Q E ⟨hp, g, d, tk, os⟩ := fun q => B.iter prog w _ _ ⟨hp, g, d, tk, os⟩ _ h1 q
    wp_walk using q1
    refine wpAny_stack_any fun st => wpAny_pure ?_
    split
    · rename_i c _ _ _ _ _
      cases (c == Value.type "enumerate") <;> (wp_walk using q1; exact ⟨_, rfl, h⟩)
    · wp_walk using q1
      exact ⟨_, rfl, h⟩
theorem call_enum1 {prog : Program} {w : World} {A : Around} {E : Value → Shared → Prop} {s : Shared} {v : Value} {o : Obj} {T : Heap → Prop} {Q : Value → Shared → Prop} (B : Begins v o T) (h1 : T s.heap)
    (h : ∀ h', IsEnum h' (s.heap.objs.size + 1) s.heap.objs.size 0 .none → h'.get? s.heap.objs.size = some o → (∀ b o', s.heap.get? b = some o' → h'.get? b = some o') → Q (.ref (s.heap.objs.size + 1)) { s with heap := h' }) :
    wpAny (model prog w) A (call (.type "enumerate") [v]) Q E s := by
  refine callType_new F.called_enumerate (by decide) (F.typeCall_enumerate_1 _) (F.newCall_enumerate_1 _) (fun obj => F.args_object_init_2 obj _) F.entry_enumerate_new (enum_new1 B) ⟨h1, ?_⟩
  have hz : (s.heap.push o).objs.size = s.heap.objs.size + 1 := Heap.size_push ..
  show _ ∧ _
  rw [hz]
  have he : IsEnum ((s.heap.push o).push { cls := .type "enumerate", data := .fields #[.none, .bool false, .ref s.heap.objs.size, rawInt 0, .none, .none] }) (s.heap.objs.size + 1) s.heap.objs.size 0 .none := by
    have z := Heap.get?_push_size (s.heap.push o) (o := { cls := .type "enumerate", data := .fields #[.none, .bool false, .ref s.heap.objs.size, rawInt 0, .none, .none] }) rfl
    rw [hz] at z
    exact z
  exact ⟨⟨_, he, rfl⟩, h _ he (Heap.get?_push_of_some _ (Heap.get?_push_size _ B.free)) fun b o x => Heap.get?_push_of_some _ (Heap.get?_push_of_some _ x)⟩

/-- the tuple at a, each item in a new pair with its number -/
def ItE (K : PySem.W.Frag) (a : Addr) : It :=
  ⟨fun i H => ∃ (xs : List V) (x : V), SqT K H a xs ∧ xs[i]? = some x, fun i H v H' => ∃ T x, v = .ref T ∧ H T = none ∧ H' = upd H T (.tup [.int (i : Nat), x]) ∧ ∀ xs, SqT K H a xs → xs[i]? = some x, fun i H => ∃ xs : List V, SqT K H a xs ∧ xs.length ≤ i⟩
theorem turn_enumT {P : Program} {w : World} {K : PySem.W.Frag} {elts : List Expr} {kk : Nat} {tpos : Pos} (a e it : Addr) :
    Turn P w K (.Tuple elts kk tpos) (ItE K a) [e, it] e (fun i h => (∃ old, IsEnum h e it ((i : Nat) : Int) old) ∧ h.IsTupleIter it a i ∧ e ≠ it) where
  mem := by simp
  obj := fun i h ⟨⟨old, he⟩, ⟨o, ho, hc, hd⟩, _⟩ b hb => by
    rcases (show b = e ∨ b = it by simpa using hb) with z | z
    · rw [z]
      exact ⟨_, he, fun v q => nomatch q⟩
    · rw [z]
      exact ⟨o, ho, fun v q => by rw [hd] at q; cases q⟩
  keep := fun i h h' ⟨⟨old, he⟩, hi, hne⟩ k => ⟨⟨old, k e (by simp) _ he⟩, hi.at fun o q => k it (by simp) o q, hne⟩
  item := by
    intro X hP hw hK hc i pins s σ H E I hf ⟨⟨old, he⟩, hit, hne⟩ ⟨xs, x, hq, hx⟩
    subst hP hw hK
    obtain ⟨its, rv, p, hz⟩ := I.tuple hq
    obtain ⟨u, hu, ru⟩ := rv.get hx
    have hil : it < s.heap.objs.size := let ⟨_, q, _⟩ := hit; Heap.lt_size q
    have hel : e < s.heap.objs.size := Heap.lt_size he
    have hat : it ≠ a := fun z => by
      obtain ⟨o1, q1, c1, _⟩ := hit
      obtain ⟨o2, q2, c2, _⟩ := p
      rw [z, q2] at q1
      cases q1
      rw [c2] at c1
      exact absurd c1 (by decide)
    have hea : e ≠ a := fun z => by
      have q1 : s.heap.get? e = some _ := he
      obtain ⟨o2, q2, c2, _⟩ := p
      rw [z, q2] at q1
      cases q1
      injection (show Value.type "enumerate" = Value.type "tuple" from c2) with c3
      exact absurd c3 (by decide)
    have hT : s.heap.IsTuple a its.toArray := p
    refine wpAny_pyNext_enum_itemD (Draws.tuple (A := X.A.in1) (I.ok.hd hc) it a (Ne.symm hat) its.toArray) he (i := i) ⟨hit, hT⟩ (by rw [List.size_toArray]; exact (List.getElem?_eq_some_iff.mp hu).1) hne (by simp [hne, hea]) fun x' h' tk hx' ho st' hTn hsz hk => ?_
    have ex : x' = u := by
      have z : its[i]? = some x' := by simpa using hx'
      exact Option.some.inj (z.symm.trans hu)
    subst ex
    refine ⟨_, rfl, wpAny_letOwnedTupleGo_enum (s := { s with heap := h', toks := tk + 1 }) ho fun h'' he' sb => ?_⟩
    have hT2 : h''.get? s.heap.objs.size = some { cls := .type "tuple", data := .seq #[.int i tk, x'] } := (sb.2 _ (Nat.ne_of_gt hel)).trans hTn
    have new : ObjOk X.prog X.w (upd H s.heap.objs.size (.tup [.int (i : Nat), x])) h'' s.heap.objs.size (.tup [.int (i : Nat), x]) := ⟨by show 2 ≤ sizeLine; decide, [.int i tk, x'], .cons ⟨_, rfl⟩ (.cons ru .nil), ⟨_, hT2, rfl, _, rfl⟩⟩
    have I1 : L2.Inv X pins σ (upd H s.heap.objs.size (.tup [.int (i : Nat), x])) { s with heap := h'', toks := tk + 1 } :=
      I.turnedNew (ch := [e, it]) (fun b ob hb q => (sb.2 b (fun z => hb (by simp [z]))).trans (hk b ob (fun z => hb (by simp [z])) (fun z => hb (by simp [z])) q)) hf (Nat.le_refl _) new
    refine ⟨.ref s.heap.objs.size, _, I1, rfl, ⟨_, x, rfl, I.hok.fresh (Nat.le_refl _), rfl, fun ys hy => by rw [I.tuple_inj hy hq]; exact hx⟩, ⟨⟨x', ?_⟩, st'.1.at fun o q => (sb.2 it (Ne.symm hne)).trans q, hne⟩, fun b hb => ?_⟩
    · rw [show ((i + 1 : Nat) : Int) = (i : Int) + 1 by omega]
      exact he'
    · have hb' : b < s.heap.objs.size := by
        rcases (show b = e ∨ b = it by simpa using hb) with z | z
        · rw [z]; exact hel
        · rw [z]; exact hil
      rw [upd_ne (Nat.ne_of_lt hb')]
      exact (hf b hb).1
  done := by
    intro X hP hw hK hc i pins s σ H E I hf ⟨⟨old, he⟩, hit, hne⟩ ⟨xs, hq, hx⟩
    subst hP hw hK
    obtain ⟨its, rv, p, hz⟩ := I.tuple hq
    obtain ⟨f0, f1, f2, f3, f4, f5⟩ := hf it (by simp)
    have hl := rv.length
    have hT : s.heap.IsTuple a its.toArray := p
    have hat : it ≠ a := fun z => by
      obtain ⟨o1, q1, c1, _⟩ := hit
      obtain ⟨o2, q2, c2, _⟩ := p
      rw [z, q2] at q1
      cases q1
      rw [c2] at c1
      exact absurd c1 (by decide)
    have D := Draws.tuple (prog := X.prog) (w := X.w) (A := X.A.in1) (I.ok.hd hc) it a (Ne.symm hat) its.toArray
    have hT' : s.TypeIs (.ref e) "enumerate" := ⟨_, he, rfl⟩
    unfold pyNext
    refine wpAny_bind (wpAny_attempt (wpAny_callSpecial?_slot (name := Str.ofString "__next__") hT' F.slot_enumerate_next (wpAny_call_entry F.slot_enumerate_next hT' F.entry_enumerate_next ?_ (F.args_enumerate_next_1 _))))
    show wpAny _ _ (field (.ref e) 2 >>= _) _ _ _
    refine wpAny_bind (wpAny_field he rfl (x := .ref it) rfl ?_)
    refine wpAny_bind (wpAny_nextOf_tuple_end (A := X.A.in1) (I.ok.hd hc) hit hT (by simp; omega) fun h' x he' hx' => ?_)
    obtain ⟨o, ho, hc'⟩ := hx'
    refine wpAny_bind (wpAny_isInstance (T := "StopIteration") (b := true) ⟨o, ho, hc'⟩ isSubtype_stop ?_)
    exact wpAny_pure ⟨rfl, I.turned (t' := s.toks) (fun b o hb q => he' b o hb q) f0 f1 f3 f4 f5⟩
  self := fun A i s Q E ⟨⟨_, he⟩, _⟩ h => wpAny_pyIter_enum he h
def iEnumT (K : PySem.W.Frag) (ta : TA) : TI := fun σ H R => ta σ H fun vs H1 => ∃ a xs, vs = [.ref a] ∧ SqT K H1 a xs ∧ R (ItE K a) H1
theorem pi_enumT {X : Cx} {e : Expr} {ta : TA} {p pos tpos : Pos} {elts : List Expr} {kk : Nat} (hg : Gl X "enumerate") (hm : X.mg "enumerate" = none) (ha : PA X [e] ta) (hs : starEach [e] X.env = [(false, eval e X.env)] := by rfl) :
    PI X (.Tuple elts kk tpos) (.Call (.Name "enumerate" p) [e] [] pos) (iEnumT X.K ta) := by
  refine ⟨fun pins s σ H R I h => ?_⟩
  refine Call_ (ld_blt I hg hm boot_enumerate (PyProof.Rows.callWith_type1 (thn (ha.run pos pins s σ H _ I h) fun us s1 ⟨vs, H1, I1, r1, a, xs, ex, hq, q⟩ => ?_) hs rfl))
  subst ex
  obtain ⟨u, eu, rx⟩ := vals1 r1
  subst eu
  obtain rfl : u = .ref a := rx
  obtain ⟨its, rv, p', hz⟩ := I1.tuple hq
  refine call_enum1 (begins_tuple a its.toArray) (show s1.heap.IsTuple a its.toArray from p') fun h' he hit hk => wpAny_pyIter_enum he ?_
  refine ⟨s1.heap.objs.size + 1, [s1.heap.objs.size + 1, s1.heap.objs.size], _, _, H1, rfl, I1.kept (t' := s1.toks) hk, turn_enumT a (s1.heap.objs.size + 1) s1.heap.objs.size, ⟨⟨.none, he⟩, ⟨_, hit, rfl, rfl⟩, Nat.succ_ne_self _⟩, fun b hb => ?_, q⟩
  have hle : s1.heap.objs.size ≤ b := by
    rcases (show b = s1.heap.objs.size + 1 ∨ b = s1.heap.objs.size by simpa using hb) with z | z
    · rw [z]; exact Nat.le_add_right _ _
    · rw [z]; exact Nat.le_refl _
  exact I1.fpOk hle (I1.hok.fresh hle)
theorem walk_enumT {K : PySem.W.Frag} {a : Addr} {xs : List V} : Walk (ItE K a) xs.length (fun H => SqT K H a xs) (YPair (fun i => some (.int (i : Nat))) (fun i => xs[i]?)) where
  goes := fun i H hi g => ⟨xs, xs[i], g, List.getElem?_eq_getElem hi⟩
  stops := fun H g => ⟨xs, g, Nat.le_refl _⟩
  yields := fun i H x H' hi g ⟨T, y, e1, e2, e3, e4⟩ => ⟨T, _, y, e1, e2, e3, rfl, e4 xs g⟩
theorem walk_dic {P : Program} {w : World} {K : PySem.W.Frag} {d : Addr} {o : Obj} {xs : List En} {kvs : List (PK × V)} :
    Walk (ItD P w K d o xs kvs) kvs.length (fun H => H d = some (.frz o (.ext (rawD P w d xs))) ∧ PairE K H kvs xs) (fun i H x H' => H' = H ∧ ∃ k v, kvs[i]? = some (k, v) ∧ KyV K H k x) where
  goes := fun i H hi g => ⟨g.1, g.2, hi⟩
  stops := fun H g => ⟨g.1, g.2, Nat.le_refl _⟩
  yields := fun i H x H' hi g y => y
/-- a comprehension of a dict over a walk -/
theorem dc_it {P : Program} {w : World} {K : PySem.W.Frag} {J : It} {n : Nat} {G : Hp → Prop} {Y : Nat → Hp → V → Hp → Prop} (wk : Walk J n G Y) {g : TG} {tt : TT} {tk tv : TE} {vs : List Nat} {σ : L2.St} {H1 : Hp} {D : Addr} {u : HO} {Qd : Hp → Prop} (Pv : Nat → Hp → Prop)
    (h0 : Pv 0 (upd H1 D u)) (hG : ∀ i H, i ≤ n → Pv i H → G H)
    (hs : ∀ i x H H', i < n → Pv i H → Y i H x H' → g x (wipe σ vs) H' fun σ2 H2 => wipe σ2 vs = wipe σ vs ∧ tt σ2 H2 fun b H3 =>
      if b = true then tk σ2 H3 fun y H4 => tv σ2 H4 fun z H5 => ∃ kvs k, KyV K H5 k y ∧ DicW P w K H5 D kvs ∧ kvs.length < sizeLine ∧ ∀ u, DicW P w K (upd H5 D u) D (putK kvs k z) → Pv (i + 1) (upd H5 D u) else Pv (i + 1) H3) (hd : ∀ H, Pv n H → Qd H) :
    ∃ W : Nat → Nat → Hp → Prop, (∃ m, W 0 m (upd H1 D u)) ∧ ∀ i m H, W i m H → (J.stop i H ∧ Qd H) ∨
      (J.go i H ∧ ∃ Nx : Hp → Prop, (∀ H', Nx H' → ∃ m', m' < m ∧ W (i + 1) m' H') ∧ ∀ x H', J.yld i H x H' → g x (wipe σ vs) H' fun σ2 H2 => wipe σ2 vs = wipe σ vs ∧ tt σ2 H2 fun b H3 =>
        if b = true then tk σ2 H3 fun y H4 => tv σ2 H4 fun z H5 => ∃ kvs k, KyV K H5 k y ∧ DicW P w K H5 D kvs ∧ kvs.length < sizeLine ∧ ∀ u, DicW P w K (upd H5 D u) D (putK kvs k z) → Nx (upd H5 D u) else Nx H3) := by
  refine ⟨fun i m H => m = n - i ∧ i ≤ n ∧ Pv i H, ⟨n, by simp, Nat.zero_le _, h0⟩, ?_⟩
  intro i m H ⟨em, hi, p⟩
  subst em
  have q := hG i H hi p
  by_cases hlt : i < n
  · exact .inr ⟨wk.goes i H hlt q, Pv (i + 1), fun H' p' => ⟨n - (i + 1), by omega, rfl, hlt, p'⟩, fun x H' y => hs i x H H' hlt p (wk.yields i H x H' hlt q y)⟩
  · have e : i = n := by omega
    subst e
    exact .inl ⟨wk.stops H q, hd H p⟩
end Mk


set_option Elab.async false
set_option linter.all false
set_option maxRecDepth 100000
set_option maxHeartbeats 2000000
/-! calls of defs by what they promise, isinstance, constants; heaps that grow -/
namespace Mk
open PySem PySem.Spec PyProof.Rows L2

/-! ### the type of a value -/
inductive TyA (P : Program) (w : World) (K : PySem.W.Frag) (H : Hp) : V → String → Prop where
  | non : TyA P w K H .non "NoneType"
  | bl (b : Bool) : TyA P w K H (.bl b) "bool"
  | int (i : Int) : TyA P w K H (.int i) "int"
  | str (z : Str) : TyA P w K H (.str z) "str"
  | tup {a : Addr} {xs : List V} (h : SqT K H a xs) : TyA P w K H (.ref a) "tuple"
  | lst {a : Addr} {xs : List V} (h : SqL K H a xs) : TyA P w K H (.ref a) "list"
  | dic {a : Addr} {kvs : List (PK × V)} (h : DicR P w K H a kvs) : TyA P w K H (.ref a) "dict"
def rIsA (P : Program) (w : World) (K : PySem.W.Frag) : List V → Hp → VK → Prop := fun xs H Q => ∃ x T t b, xs = [x, .ty T] ∧ TyA P w K H x t ∧ kitB t T = some b ∧ Q (.bl b) H
theorem call_isA {X : Cx} : CallR X (.builtin "isinstance") (rIsA X.prog X.w X.K) := by
  intro pins s σ H xs us Q I r ⟨x, T, t, b, e, ty, eb, q⟩
  subst e
  obtain ⟨u, c, eu, r1, r2⟩ := vals2 r
  subst eu
  obtain rfl : c = Value.type T := r2
  have e := kit_ty (K := X.K) eb
  have fin : ∀ tk, EP X pins σ Q (.bool b) { s with toks := tk } := fun tk => ⟨.bl b, H, I.tok tk, rfl, q⟩
  cases ty with
  | non => cases (show u = Value.none from r1); exact PySem.W.kia_one PySem.W.kitx_none I.kIn True.intro e (fun z => nomatch z) fin
  | bl y => cases (show u = Value.bool y from r1); exact PySem.W.kia_one PySem.W.kitx_bool I.kIn True.intro e (fun z => nomatch z) fin
  | int i => obtain ⟨t, q⟩ := (show ∃ t, u = Value.int i t from r1); cases q; exact PySem.W.kia_one PySem.W.kitx_int I.kIn True.intro e (fun z => nomatch z) fin
  | str y => obtain ⟨t, q⟩ := (show ∃ t, u = Value.str y t from r1); cases q; exact PySem.W.kia_one PySem.W.kitx_str I.kIn True.intro e (fun z => nomatch z) fin
  | tup h =>
    cases (show u = Value.ref _ from r1)
    obtain ⟨_, _, ⟨o, h1, h2, _⟩, _⟩ := I.tuple h
    exact PySem.W.kia_one PySem.W.kitx_tuple I.kIn ⟨o, h1, h2⟩ e (fun z => nomatch z) fin
  | lst h =>
    cases (show u = Value.ref _ from r1)
    obtain ⟨_, _, ⟨o, n, h1, h2, _⟩, _⟩ := I.list h
    exact PySem.W.kia_one PySem.W.kitx_list I.kIn ⟨o, h1, h2⟩ e (fun z => nomatch z) fin
  | dic h =>
    cases (show u = Value.ref _ from r1)
    obtain ⟨_, ⟨o, _, _, h1, h2, _⟩, _⟩ := dic_of I h
    exact PySem.W.kia_one PySem.W.kitx_dict I.kIn ⟨o, h1, h2.1⟩ e (fun z => nomatch z) fin

/-! ### constants of the top, defs of the top -/
def IsC (mg : Str → Option Value) (x : Str) (v : V) : Prop := ∃ u, mg x = some u ∧ L2.RelV v u
theorem pe_const {X : Cx} {x : Str} {v : V} {pos : Pos} (h : IsC X.mg x v) (hg : Gl X x) (hd : (x == ("__debug__" : Str)) = false := by decide) : PE X (.Name x pos) (tC v) :=
  let ⟨_, e, r⟩ := h
  pe_glob hg e r hd
/-- the def x of the top keeps a promise -/
def Cal (P : Program) (w : World) (K : PySem.W.Frag) (mg : Str → Option Value) (base : Heap) (x : Str) (k : Nat) (ps : List Str) (sp : Sp) : Prop :=
  ∃ f fd, FnOk P w K mg base CX0 k f fd ps sp ∧ mg x = some (.ref f) ∧ PySem.W.keepIn K (.ref f) = true ∧ Binds K fd ps []
/-- the def x stands at the top -/
def Def (K : PySem.W.Frag) (mg : Str → Option Value) (x : Str) (st : Stmt) (ps : List Str) : Prop := ∃ f fd, Fun K x x st f fd ∧ mg x = some (.ref f) ∧ Binds K fd ps []
section
variable {P : Program} {w : World} {K : PySem.W.Frag} {mg : Str → Option Value} {base : Heap} {x : Str} {st : Stmt} {N ps : List Str} {k : Nat} {sp : Sp}
theorem Cal.of (D : Def K mg x st ps) (S : FnScope N ps (defScope st)) (len : ∀ vs H Q E, sp vs H Q E → vs.length = ps.length)
    (hbody : ∀ (f : Addr) (cdv : Value) (A : Around) (outer : List Env) (s : Shared) (H : Hp) (vs : List V) (Q : VK) (E : XK), Room k (A.deeper (envOfC x (defScope st) s.heap.objs.size f cdv)) → sp vs H Q E →
      ∃ t, PSs (cxOf CX0 P w K mg base N x (defScope st) f cdv A outer s H E).nox (defBody st) t ∧ t { nx := fun _ H' => Q .non H', rt := Q } (start N vs) H) : Cal P w K mg base x (k + 1) ps sp := by
  obtain ⟨f, fd, F, g, b⟩ := D
  exact ⟨f, fd, F.ok S len (hbody f), g, F.kp, b⟩
end
theorem pe_cal {X : Cx} {x : Str} {k j : Nat} {ps : List Str} {sp : Sp} {p pos : Pos} {e : Expr} {es : List Expr} {t : TA} (C : Cal X.prog X.w X.K X.mg X.base x k ps sp) (hr : Room j X.A) (hk : k ≤ j) (hg : Gl X x) (ha : PA X (e :: es) t)
    (hdb : (x == ("__debug__" : Str)) = false := by decide) (he : starEach (e :: es) X.env = (false, eval e X.env) :: starEach es X.env := by rfl) (hpl : (backTo pos (starEach es X.env)).any (·.1) = false := by rfl)
    (hp : Passes CX0 X E0 := by exact pass0) : PE X (.Call (.Name x p) (e :: es) [] pos) (tCall sp [] E0 t) := by
  obtain ⟨f, fd, F, g, kp, b⟩ := C
  exact pe_call F (hr.mono hk) hg g kp b .nil hp ha hdb he hpl

/-! ### a heap that grows; one that grows but for an object -/
def Gx (H H' : Hp) : Prop := ∀ a o, H a = some o → H' a = some o
def GxB (k : Addr) (H H' : Hp) : Prop := ∀ a o, a ≠ k → H a = some o → H' a = some o
section
variable {K : PySem.W.Frag} {H H1 H2 H' : Hp} {k p : Addr} {o : HO}
theorem Gx.refl : Gx H H := fun _ _ h => h
theorem Gx.trans (a : Gx H H1) (b : Gx H1 H2) : Gx H H2 := fun x u h => b x u (a x u h)
theorem Gx.new (h : H p = none) : Gx H (upd H p o) := fun a u e => by rw [upd_ne (ne_of_none e h)]; exact e
/-- one that H does not know may change -/
theorem Gx.mut (e : Gx H H') (h : H p = none) : Gx H (upd H' p o) := fun a u q => by rw [upd_ne (ne_of_none q h)]; exact e a u q
theorem Gx.free (e : Gx H H') (h : H' p = none) : H p = none := by
  cases q : H p with
  | none => rfl
  | some u => rw [e p u q] at h; cases h
theorem Gx.seqT {xs : List V} {a : Addr} (e : Gx H H') (h : SqT K H a xs) : SqT K H' a xs := by
  rcases h with (h | ⟨u, h⟩) | h
  · exact .inl (.inl (e _ _ h))
  · exact .inl (.inr ⟨u, e _ _ h⟩)
  · exact .inr h
theorem Gx.seqL {xs : List V} {a : Addr} (e : Gx H H') (h : SqL K H a xs) : SqL K H' a xs := by
  rcases h with (h | ⟨u, h⟩) | h
  · exact .inl (.inl (e _ _ h))
  · exact .inl (.inr ⟨u, e _ _ h⟩)
  · exact .inr h
theorem Gx.tk (e : Gx H H') : Tk K H H' := fun _ _ h => e.seqT h
theorem Gx.dicW {P : Program} {w : World} {d : Addr} {kvs : List (PK × V)} (e : Gx H H') (h : DicW P w K H d kvs) : DicW P w K H' d kvs :=
  let ⟨xs, a, b⟩ := h
  ⟨xs, e d _ a, b.keep e.tk⟩
theorem Gx.dicR {P : Program} {w : World} {d : Addr} {kvs : List (PK × V)} (e : Gx H H') (h : DicR P w K H d kvs) : DicR P w K H' d kvs := by
  obtain ⟨xs, a, b⟩ := h
  refine ⟨xs, ?_, b.keep e.tk⟩
  rcases a with a | ⟨u, a⟩
  · exact .inl (e d _ a)
  · exact .inr ⟨u, e d _ a⟩
theorem Gx.but (e : Gx H H') : GxB k H H' := fun a o _ h => e a o h
theorem GxB.refl : GxB k H H := fun _ _ _ h => h
theorem GxB.trans (a : GxB k H H1) (b : GxB k H1 H2) : GxB k H H2 := fun x u n h => b x u n (a x u n h)
theorem GxB.set : GxB k H (upd H k o) := fun a u n e => by rw [upd_ne n]; exact e
/-- k holds something that may be written, behind as ahead -/
theorem GxB.tk (e : GxB k H H') (hk : ∃ xs, H k = some (.lst xs)) : Tk K H H' := fun a xs q => by
  obtain ⟨ys, hk⟩ := hk
  rcases q with (q | ⟨u, q⟩) | q
  · exact .inl (.inl (e a _ (fun z => by subst z; rw [hk] at q; cases q) q))
  · exact .inl (.inr ⟨u, e a _ (fun z => by subst z; rw [hk] at q; cases q) q⟩)
  · exact .inr q
end
end Mk


set_option Elab.async false
set_option linter.all false
set_option maxRecDepth 100000
set_option maxHeartbeats 400000
/-! {k: v} with one key -/
namespace Mk
open PySem PySem.Spec PyProof.Rows L2
theorem upd_upd' {H : Hp} {a : Addr} {o u : HO} : upd (upd H a o) a u = upd H a u := by
  funext b
  by_cases e : b = a
  · subst e; rw [upd_same, upd_same]
  · rw [upd_ne e, upd_ne e, upd_ne e]
def tDisp1 (P : Program) (w : World) (K : PySem.W.Frag) (tk tv : TE) : TE := fun σ H Q => ∀ D u, H D = none → DicW P w K (upd H D u) D [] → tk σ (upd H D u) fun y H4 => tv σ H4 fun z H5 =>
  ∃ k, KyV K H5 k y ∧ DicW P w K H5 D [] ∧ ∀ u, DicW P w K (upd H5 D u) D [(k, z)] → Q (.ref D) (upd H5 D u)
theorem pe_disp1 {X : Cx} {pos : Pos} {k v : Expr} {tk tv : TE} (hu : X.A.units < cLine) (hk : PE X k tk) (hv : PE X v tv) : PE X (.Dict [some k] [v] pos) (tDisp1 X.prog X.w X.K tk tv) := by
  refine ⟨fun pins s σ H Q I q => ?_⟩
  have hn := I.hok.fresh (Nat.le_refl s.heap.objs.size)
  have I1 := I.laid (a := s.heap.objs.size) (o := .dK []) (h' := s.heap.push { cls := .type "dict", data := .dict #[] }) (t' := s.toks) (fun _ _ q => Heap.get?_push_of_some _ q) (Nat.le_refl _) (dk_empty s.heap I.big)
  obtain ⟨u, I2, hd⟩ := Inv.toP I1 upd_same
  rw [upd_upd'] at I2 hd
  rw [arm_eval_Dict, zip_pairTrees [some k] [v] X.env pos rfl rfl, dictDisplay_pairs (pairTrees [some k] [v] X.env pos) (by simp [pairTrees]) (by simp [pairTrees])]
  refine wpAny_bind (wpAny_standAt (wpAny_bind ?_))
  unfold subDict
  refine wpAny_bind (wpAny_alloc ?_)
  refine wpAny_bind (wpAny_holding ?_)
  rw [if_pos (by simp [pairTrees])]
  refine wpAny_bind (pairTrees_cons_walk (thn (hk.run pins _ σ _ _ I2 (q _ _ hn hd)) fun u1 s1 ⟨x, H1, I3, rx, q1⟩ => thn (hv.run pins s1 σ H1 _ I3 q1) fun w2 s2 ⟨y, H2, I4, ry, q2⟩ => pairTrees_nil_walk ?_))
  obtain ⟨j, kj, dj, q3⟩ := q2
  refine wpAny_holding ?_
  rw [List.forIn_cons]
  refine wpAny_bind (wpAny_bind (wpAny_bind ?_))
  refine thn (dic_store (N := fun H' => Q (.ref s.heap.objs.size) H') hu I4 dj kj (by decide) rx ry (fun z hz => q3 z hz)) fun _ s3 ⟨H3, I5, q5⟩ => ?_
  refine wpAny_pure ?_
  show wpAny _ _ (forIn [] _ _) _ _ _
  rw [List.forIn_nil]
  exact wpAny_pure (wpAny_pure (wpAny_pure (wpAny_pure ⟨.ref s.heap.objs.size, _, I5, rfl, q5⟩)))
/-! d.get(k) of such a dict -/
def tDMeth (P : Program) (w : World) (K : PySem.W.Frag) (r : V → List V → Hp → VK → Prop) (to : TE) (t : TA) : TE := fun σ H Q => to σ H fun x H1 => (∃ d kvs, x = .ref d ∧ DicR P w K H1 d kvs) ∧ t σ H1 fun xs H2 => r x xs H2 Q
theorem pe_dmeth {X : Cx} {o e : Expr} {to : TE} {t : TA} {name : Str} {apos cpos : Pos} {id : String} {r : V → List V → Hp → VK → Prop} (pa : PlainAttrs "dict") (slot : Slot "dict" name id) (hty : typeOf (.builtin id) = pure (.type "method_descriptor")) (hm : MtR X id r) (ho : PE X o to) (ha : PA X [e] t)
    (hb : attributeBase o name X.env (eval o X.env) = eval o X.env := by rfl) (hl : (apos.endLine == cpos.line) = true := by rfl)
    (hw : ((backTo cpos (starEach [e] X.env)).all (fun x => !x.1) && (backToKw cpos (keywordEach [] X.env)).all (fun x => x.1.isSome) && decide (([e] : List Expr).length + ([] : List Keyword).length + (if ([] : List Keyword).isEmpty then 0 else 1) < 30)) = true := by rfl) (hs : starEach [e] X.env = (false, eval e X.env) :: starEach [] X.env := by rfl) :
    PE X (.Call (.Attribute o name apos) [e] [] cpos) (tDMeth X.prog X.w X.K r to t) := by
  refine ⟨fun pins s σ H Q I h => wpAny_Call_method_late hb hw hl rfl (thn (ho.run pins s σ H _ I h) ?_)⟩
  rintro v s1 ⟨x, H1, I1, rx, ⟨d, kvs, ed, hd⟩, q⟩
  subst ed
  obtain rfl : v = Value.ref d := rx
  obtain ⟨_, ⟨ob, _, _, e1, e2, _⟩, _⟩ := dic_of I1 hd
  have hA := ha.run cpos pins s1 σ H1 _ I1 q
  rw [hs] at hA
  refine ⟨"dict", id, pa, slot, hty, ⟨ob, e1, e2.1⟩, fun a ea => (by cases ea; exact ⟨ob, e1, e2.2.1⟩), ?_⟩
  rw [hs]
  exact Calls.callWith_builtin (by rfl) (Calls.evalArgs_plain (thn hA fun us s2 ⟨vs, H2, I2, r2, q2⟩ => hm pins s2 σ H2 (.ref d) vs (.ref d) us Q I2 rfl r2 q2))
/-! the rules of blocks: the program, the world and the frag by name -/
section
variable {X : Cx} {P : Program} {w : World} {K : PySem.W.Frag}
theorem call_isA' (hP : X.prog = P) (hw : X.w = w) (hK : X.K = K) : CallR X (.builtin "isinstance") (rIsA P w K) := by subst hP hw hK; exact call_isA
theorem op_inD' (hu : X.A.units + 1 < cLine) (hP : X.prog = P) (hw : X.w = w) (hK : X.K = K) : OpR X (compareOp .In) (Mk.rInD P w K) := by subst hP hw hK; exact Mk.op_inD hu
theorem op_notInD' (hu : X.A.units + 1 < cLine) (hP : X.prog = P) (hw : X.w = w) (hK : X.K = K) : OpR X (compareOp .NotIn) (Mk.rNotInD P w K) := by subst hP hw hK; exact Mk.op_notInD hu
theorem ix_dic' (hu : X.A.units + 1 < cLine) (hP : X.prog = P) (hw : X.w = w) (hK : X.K = K) : IxR X (Mk.rIxD P w K) := by subst hP hw hK; exact ix_dic hu
theorem ix_tup' (hK : X.K = K) : IxR X (rIxT K) := by subst hK; exact ix_tup
theorem call_dictPP' (hu : X.A.units + 3 < cLine) (hcalm : X.calm = true) (hP : X.prog = P) (hw : X.w = w) (hK : X.K = K) : CallR X (.type "dict") (rDictP P w K) := by subst hP hw hK; exact call_dictPP hu hcalm
theorem op_inDp (hu : X.A.units + 65 < cLine) (hK : X.K = K) : OpR X (compareOp .In) (L2.rInD K) := by subst hK; exact L2.op_inD hu
theorem op_notInDp (hu : X.A.units + 65 < cLine) (hK : X.K = K) : OpR X (compareOp .NotIn) (L2.rNotInD K) := by subst hK; exact L2.op_notInD hu
end
theorem pg_tupB {X : Cx} {K : PySem.W.Frag} {es : List Expr} {k : Nat} {t : TGs} {n : Nat} {pos : Pos} (hc : X.calm = true) (hK : X.K = K) (h : PGs X es t)
    (hn : (assignEach es X.env).length = n := by rfl) (hst : (assignEach es X.env).findIdx? (·.1) = none := by rfl) : PG X (.Tuple es k pos) (gTup K n t) := by subst hK; exact pg_tup hc h hn hst
theorem pe_eqv {X : Cx} {e : Expr} {t t' : TE} (h : PE X e t) (q : t = t') : PE X e t' := by subst q; exact h
end Mk


set_option Elab.async false
set_option linter.all false
set_option maxRecDepth 100000
set_option maxHeartbeats 400000
/-! promises of defs that ask that no repr is under way (guards): the defs that call repr, and those that call them -/
namespace Mk
open PySem PySem.Spec PyProof.Rows L2
/-- what FnOk says, where no guard is set -/
structure FnG (P : Program) (w : World) (K : PySem.W.Frag) (mg : Str → Option Value) (base : Heap) (k : Nat) (f : Addr) (fd : FuncData) (ps : List Str) (sp : Sp) : Prop where
  len : ∀ vs H Q E, sp vs H Q E → vs.length = ps.length
  run : ∀ (A : Around) (outer : List Env) (s : Shared) (H : Hp) (args : Args) (us : List Value) (vs : List V) (Q : VK) (E : XK), A.guards = some [] → Room k A → Env0 P w K mg base A outer s H → BindsTo s fd args (ps.zip us) → Vals vs us → sp vs H Q E →
    codeAny (model P w) A (.call (.ref f) args) (CR CX0 outer P w H s Q E) s
theorem FnG.of {P : Program} {w : World} {K : PySem.W.Frag} {mg : Str → Option Value} {base : Heap} {k : Nat} {f : Addr} {fd : FuncData} {ps : List Str} {sp : Sp} (F : FnOk P w K mg base CX0 k f fd ps sp) : FnG P w K mg base k f fd ps sp :=
  ⟨F.len, fun A outer s H args us vs Q E _ => F.run A outer s H args us vs Q E⟩
section
variable {P : Program} {w : World} {K : PySem.W.Frag} {mg : Str → Option Value} {base : Heap}
/-- a def of the top, by its body -/
theorem Fun.okG {x qual : Str} {st : Stmt} {f : Addr} {fd : FuncData} {N ps : List Str} {k : Nat} {sp : Sp} (F : Fun K x qual st f fd) (S : FnScope N ps (defScope st)) (len : ∀ vs H Q E, sp vs H Q E → vs.length = ps.length)
    (hb : ∀ (cdv : Value) (A : Around) (outer : List Env) (s : Shared) (H : Hp) (vs : List V) (Q : VK) (E : XK), (A.deeper (envOfC qual (defScope st) s.heap.objs.size f cdv)).guards = some [] → Room k (A.deeper (envOfC qual (defScope st) s.heap.objs.size f cdv)) → sp vs H Q E →
      ∃ t, PSs (cxOf CX0 P w K mg base N qual (defScope st) f cdv A outer s H E).nox (defBody st) t ∧ t { nx := fun _ H' => Q .non H', rt := Q } (L2.start N vs) H) : FnG P w K mg base (k + 1) f fd ps sp := by
  obtain ⟨oc, od, kV, doc, pm, an, cdv, ct, osl, rfl, lk, hcd⟩ := F.ex
  refine ⟨len, fun A outer s H args us vs Q E hg hr e0 hbi rv hsp => ?_⟩
  have inK : K.In s.heap := e0.mod.kin.keeps fun b o e => (e0.bs b o e).1
  have par : ∀ y ∈ ps.zip us, (defScope st).names.lookup y.1 = some .local ∨ ((defScope st).names.lookup y.1 = some .cell ∧ ((cellsFrom (s.heap.objs.size + 1) (defScope st).names []).lookup y.1).isSome = true) := by
    rintro ⟨n, v⟩ hy
    exact (S.par n (List.of_mem_zip hy).1).imp id fun q => ⟨q, PySem.W.cellsFrom_some _ _ _ (.inl q)⟩
  refine codeAny_call_function hr.depth (inK _ _ lk) rfl S.co S.gen rfl (PySem.W.codeRec_of inK hcd) (hbi _ _ _ _ (wpAny_newFunctionEnv_cells S.kind par fun env he s1 x1 => ?_))
  subst he
  refine ⟨(e0.mod.nolimit.keeps fun b o e => (e0.bs b o e).1).keeps x1.toInCall.keep, codeAny_func ?_⟩
  obtain ⟨t, ht, q⟩ := hb cdv A outer s H vs Q E hg (hr.deeper _) hsp
  refine wpAny_mono (ht.nox.run [] s1 (L2.start N vs) H _ (inv_start S hr.hd e0 (len _ _ _ _ hsp) rv x1) q) ?_ fun _ _ h => h
  intro fl s' hs
  cases fl with
  | ret u => obtain ⟨v, σ', H', J, r, q⟩ := hs; exact ⟨v, H', J.os, J.bare, J.base, J.hok, r, q⟩
  | next => obtain ⟨σ', H', J, q⟩ := hs; exact ⟨.non, H', J.os, J.bare, J.base, J.hok, rfl, q⟩
  | brk => obtain ⟨_, _, _, q⟩ := hs; exact q.elim
  | cont => obtain ⟨_, _, _, q⟩ := hs; exact q.elim
def CalG (P : Program) (w : World) (K : PySem.W.Frag) (mg : Str → Option Value) (base : Heap) (x : Str) (k : Nat) (ps : List Str) (sp : Sp) : Prop :=
  ∃ f fd, FnG P w K mg base k f fd ps sp ∧ mg x = some (.ref f) ∧ PySem.W.keepIn K (.ref f) = true ∧ Binds K fd ps []
theorem CalG.of {x : Str} {st : Stmt} {N ps : List Str} {k : Nat} {sp : Sp} (D : Def K mg x st ps) (S : FnScope N ps (defScope st)) (len : ∀ vs H Q E, sp vs H Q E → vs.length = ps.length)
    (hb : ∀ (f : Addr) (cdv : Value) (A : Around) (outer : List Env) (s : Shared) (H : Hp) (vs : List V) (Q : VK) (E : XK), (A.deeper (envOfC x (defScope st) s.heap.objs.size f cdv)).guards = some [] → Room k (A.deeper (envOfC x (defScope st) s.heap.objs.size f cdv)) → sp vs H Q E →
      ∃ t, PSs (cxOf CX0 P w K mg base N x (defScope st) f cdv A outer s H E).nox (defBody st) t ∧ t { nx := fun _ H' => Q .non H', rt := Q } (L2.start N vs) H) : CalG P w K mg base x (k + 1) ps sp := by
  obtain ⟨f, fd, F, g, b⟩ := D
  exact ⟨f, fd, Fun.okG F S len (hb f), g, F.kp, b⟩
end
theorem pe_calG {X : Cx} {x : Str} {k j : Nat} {ps : List Str} {sp : Sp} {p pos : Pos} {e : Expr} {es : List Expr} {t : TA} (C : CalG X.prog X.w X.K X.mg X.base x k ps sp) (hG : X.A.guards = some []) (hr : Room j X.A) (hk : k ≤ j) (hg : Gl X x) (ha : PA X (e :: es) t)
    (hdb : (x == ("__debug__" : Str)) = false := by decide) (he : starEach (e :: es) X.env = (false, eval e X.env) :: starEach es X.env := by rfl) (hpl : (backTo pos (starEach es X.env)).any (·.1) = false := by rfl) :
    PE X (.Call (.Name x p) (e :: es) [] pos) (tCall sp [] E0 t) := by
  obtain ⟨f, fd, F, g, kp, b⟩ := C
  refine ⟨fun pins s σ H Q I h => wpAny_Call_Name_kw (ld_glob I hg g ?_ hdb)⟩
  refine PySem.W.callWith_K (h₀ := X.base) I.ok.mod.kin kp (thn (ha.run pos pins s σ H _ I h) fun us s1 ⟨vs, H1, I1, r, q⟩ => ⟨I1.kIn, ?_⟩) he hpl
  have q' : sp vs H1 Q E0 := by simpa using q
  have b' := b s1 us I1.kIn (by rw [List.append_nil, ← r.length]; exact F.len _ _ _ _ q')
  rw [List.append_nil] at b'
  refine wpAny_call (codeAny_mono (F.run X.A X.stack s1 H1 ⟨us, []⟩ us vs Q E0 hG (hr.mono hk) I1.env0 b' r q') fun rs s' hq => ?_)
  match rs, hq with
  | .ok (.ret u), hq => exact I1.after hq
end Mk


set_option Elab.async false
set_option linter.all false
set_option maxRecDepth 100000
set_option maxHeartbeats 400000
/-! the law's call by a promise of this kind -/
namespace Mk
open PySem PySem.Spec PyProof.Rows L2
section
variable {P : Program} {w : World} {K : PySem.W.Frag} {mg mb : Str → Option Value} {k : Nat} {fa a : Addr} {fd : FuncData} {x : Str} {sp : Sp} {s : Shared} {vs : List Value} {ns : List Int}
/-- the law's call from a heap H in which at most the script at a is tracked, and that as it stands -/
theorem law_at (KX : K.In s.heap) (hns : s.heap.Ns mainGlobals mg) (hb : s.heap.Ns builtinsNs mb) (hbb : ∀ x : Str, x ≠ "__name__" → mb x = bootBuiltins x) (hlim : s.heap.NoLimit) (hg : s.gens = #[])
    (ha : s.heap.get? a = some { cls := .type "list", data := .seq vs.toArray }) (hr : Room k callerA) (F : ∀ base : Heap, K.In base → base.Ns mainGlobals mg → FnG P w K mg base k fa fd [x] sp) (hbind : ∀ (s : Shared) (u : Value), BindsTo s fd ⟨[u], []⟩ [(x, u)])
    {H : Hp} (hO : Only H) (hH : HOk P w H s.heap) (hA : ∀ b, H b ≠ none → b = a) (hK : H a ≠ none → K.lookup a = none) (hsp : sp [.ref a] H (fun v _ => v = .bl true) fun _ _ _ => False) :
    codeAny (model P w) callerA (.call (.ref fa) ⟨[.ref a], []⟩) (fun r s' => r = .ok (.ret (.bool true)) ∧ OldK s.heap s'.heap ∧ s'.os = s.os ∧ AllBare s'.gens) s := by
  have free : ∀ {b : Addr} {o : Obj}, s.heap.get? b = some o → (b = a → False) → (hidT s.heap H).get? b = some o := fun {b o} e n => hidT_get e (Classical.byContradiction fun z => n (hA b z))
  have dictf : ∀ {b : Addr} {o : Obj} {es : Array DictEntry} {ep : Nat}, s.heap.get? b = some o → o.data = .dict es ep → (hidT s.heap H).get? b = some o := fun {b o es ep} e d => free e fun z => by
    subst z
    rw [ha] at e
    cases e
    exact nomatch (show Data.seq vs.toArray _ = Data.dict es ep from d)
  have nsf : ∀ {b : Addr} {m : Str → Option Value}, s.heap.Ns b m → (hidT s.heap H).Ns b m := by
    rintro b m ⟨o, es, ep, e, d, r⟩
    exact ⟨o, es, ep, dictf e d, d, r⟩
  have inK : K.In (hidT s.heap H) := fun b o e => by
    rcases hh : H b with _ | u
    · exact hidT_get (KX b o e) hh
    · have z : b = a := hA b (by rw [hh]; simp)
      subst z
      rw [hK (by rw [hh]; simp)] at e
      cases e
  have md : Mod K mg (hidT s.heap H) := ⟨inK, nsf hns, ⟨mb, nsf hb, hbb⟩, hlim.elim fun mc h => ⟨mc, nsf h.1, h.2⟩⟩
  have e0 : Env0 P w K mg (hidT s.heap H) callerA [] s H := ⟨rfl, md, fun b o e => of_hidT e, Nat.le_of_eq (hidT_size _ _), trivial, fun b hb => (List.not_mem_nil hb).elim, hH, .of_eq hg⟩
  refine codeAny_mono ((F _ inK (nsf hns)).run callerA [] s H ⟨[.ref a], []⟩ [.ref a] [.ref a] _ _ rfl hr e0 (hbind s (.ref a)) (.cons rfl .nil) hsp) fun r s' h => ?_
  match r, h with
  | .ok (.ret u), ⟨v, H', os, bare, un, hok', rv, q⟩ =>
    obtain rfl : v = .bl true := q
    obtain rfl : u = Value.bool true := rv
    refine ⟨rfl, OldK.of_keep fun b o e => ?_, os, bare⟩
    rcases hO b with hn | ⟨ob, xs, hf⟩
    · exact un.keep b o e hn (fun z => (List.not_mem_nil (show b ∈ ([] : List Addr) from z)).elim) (by simp)
    · obtain ⟨e1, _⟩ := hH b _ hf
      obtain ⟨e2, _⟩ := hok' b _ (un.frzs b ob _ hf)
      rw [e1] at e
      cases e
      exact e2
theorem law_callG (KX : K.In s.heap) (hns : s.heap.Ns mainGlobals mg) (hb : s.heap.Ns builtinsNs mb) (hbb : ∀ x : Str, x ≠ "__name__" → mb x = bootBuiltins x) (hlim : s.heap.NoLimit) (hg : s.gens = #[])
    (ha : s.heap.get? a = some { cls := .type "list", data := .seq vs.toArray }) (hi : IntsAre vs ns) (hl : ns.length ≤ sizeLine) (hr : Room k callerA) (F : ∀ base : Heap, K.In base → base.Ns mainGlobals mg → FnG P w K mg base k fa fd [x] sp)
    (hbind : ∀ (s : Shared) (u : Value), BindsTo s fd ⟨[u], []⟩ [(x, u)]) (hsp : ∀ H : Hp, Only H → SqL K H a (ns.map V.int) → sp [.ref a] H (fun v _ => v = .bl true) fun _ _ _ => False) :
    codeAny (model P w) callerA (.call (.ref fa) ⟨[.ref a], []⟩) (fun r s' => r = .ok (.ret (.bool true)) ∧ OldK s.heap s'.heap ∧ s'.os = s.os ∧ AllBare s'.gens) s := by
  have rv := vals_ints hi
  rcases hk : K.lookup a with _ | o
  · -- the script is tracked as it stands
    have at1 : ∀ b, (fun b => if b = a then some (HO.frz { cls := .type "list", data := .seq vs.toArray } (.lst (ns.map V.int))) else none : Hp) b ≠ none → b = a := fun b z => Classical.byContradiction fun n => z (if_neg n)
    have O : Only fun b => if b = a then some (HO.frz { cls := .type "list", data := .seq vs.toArray } (.lst (ns.map V.int))) else none := fun b => by
      by_cases c : b = a
      · exact .inr ⟨_, _, if_pos c⟩
      · exact .inl (if_neg c)
    refine law_at KX hns hb hbb hlim hg ha hr F hbind O (fun b u z => ?_) at1 (fun _ => hk) (hsp _ O (.inl (.inr ⟨_, if_pos rfl⟩)))
    have c := at1 b (fun e => nomatch (show (some u : Option HO) = none from z.symm.trans e))
    subst c
    cases (if_pos rfl).symm.trans z
    exact ⟨ha, by rw [List.length_map]; exact hl, vs, _, rv, ha⟩
  · -- it is one of the module's own
    have e := KX a o hk
    rw [ha] at e
    cases e
    exact law_at KX hns hb hbb hlim hg ha hr F hbind (H := fun _ => none) (fun _ => .inl rfl) (fun b u z => nomatch (show (none : Option HO) = some u from z)) (fun b z => absurd rfl z) (fun z => absurd rfl z)
      (hsp _ (fun _ => .inl rfl) (.inr ⟨_, vs.toArray, _, hk, rfl, rfl, rfl, by rw [List.size_toArray, hi.length]; exact hl, by simpa using rv⟩))
end
theorem walk_G {l : PySem.W.OpenLaw} {n k : Nat} {q : Program} {loose : List Str} {XP : (Str → Option Value) → Heap → Prop} {YP : World → Heap → Prop} {d : DefRec} {K : Params → PySem.W.Frag} {sp : World → Sp} {x : Str}
    (hn : l.most = some n) (hn2 : n ≤ sizeLine) (hdf : d.params.defaults = []) (hr : Room k callerA) (hY : ∀ (w : World) (h : Heap), YP w h → (K w.params).In h)
    (F : ∀ (w : World) (mg : Str → Option Value) (fa : Addr) (h : Heap), (K w.params).In h → h.Ns mainGlobals mg → mg d.name = some (.ref fa) →
      ∃ fd : FuncData, (∀ (s : Shared) (u : Value), BindsTo s fd ⟨[u], []⟩ [(x, u)]) ∧ ∀ base : Heap, (K w.params).In base → base.Ns mainGlobals mg → FnG l.prog w (K w.params) mg base k fa fd [x] (sp w))
    (hsp : ∀ (w : World) (H : Hp) (a : Addr) (ns : List Int), ns.length ≤ n → Only H → SqL (K w.params) H a (ns.map V.int) → sp w [.ref a] H (fun v _ => v = .bl true) fun _ _ _ => False) :
    PySem.W.WalkO q loose XP YP l.row.toRowW d [] (fun f vs => PySem.call f vs) := by
  refine Att.attach_call hn hdf fun w s₀ s₁ mg mb fa o pm cd doc a vs ns G Y ho hd hcd hmg hobj hints hlen hg => ?_
  obtain ⟨fd, hb, hF⟩ := F w mg fa _ (hY w _ Y) G.T.g hmg
  exact law_callG (hY w _ Y) G.T.g G.T.b G.T.builtins G.T.nolimit hg hobj hints (Nat.le_trans hlen hn2) hr hF hb fun H hO hS => hsp w H a ns hlen hO hS
end Mk


set_option Elab.async false
set_option linter.all false
set_option maxRecDepth 100000
set_option maxHeartbeats 2000000
/-! the text of the law's program -/
namespace Mk
open PySem PySem.Spec PyProof.Rows L2
def topS (i : Nat) : Stmt := PySem.Challenge.pw_cellsenough_k23_near_numbers_and_rings.main.body.getD i (.Pass ⟨0, 0, 0, 0⟩)
abbrev s_is_integer : Stmt := topS 7
abbrev N_is_integer : List Str := ["value"]
theorem sc_is_integer : FnScope N_is_integer ["value"] (defScope s_is_integer) := ⟨rfl, rfl, rfl, by decide +kernel, rfl, by decide +kernel, by decide +kernel⟩
abbrev s_is_name : Stmt := topS 8
abbrev N_is_name : List Str := ["value", "letter"]
theorem sc_is_name : FnScope N_is_name ["value"] (defScope s_is_name) := ⟨rfl, rfl, rfl, by decide +kernel, rfl, by decide +kernel, by decide +kernel⟩
abbrev s_is_new : Stmt := topS 14
abbrev N_is_new : List Str := ["value", "digit"]
theorem sc_is_new : FnScope N_is_new ["value"] (defScope s_is_new) := ⟨rfl, rfl, rfl, by decide +kernel, rfl, by decide +kernel, by decide +kernel⟩
abbrev s_is_place : Stmt := topS 15
abbrev N_is_place : List Str := ["value"]
theorem sc_is_place : FnScope N_is_place ["value"] (defScope s_is_place) := ⟨rfl, rfl, rfl, by decide +kernel, rfl, by decide +kernel, by decide +kernel⟩
abbrev s_is_point : Stmt := topS 16
abbrev N_is_point : List Str := ["value"]
theorem sc_is_point : FnScope N_is_point ["value"] (defScope s_is_point) := ⟨rfl, rfl, rfl, by decide +kernel, rfl, by decide +kernel, by decide +kernel⟩
abbrev s_is_difference : Stmt := topS 17
abbrev N_is_difference : List Str := ["value"]
theorem sc_is_difference : FnScope N_is_difference ["value"] (defScope s_is_difference) := ⟨rfl, rfl, rfl, by decide +kernel, rfl, by decide +kernel, by decide +kernel⟩
abbrev s_require_differences : Stmt := topS 18
abbrev N_require_differences : List Str := ["value", "row"]
theorem sc_require_differences : FnScope N_require_differences ["value"] (defScope s_require_differences) := ⟨rfl, rfl, rfl, by decide +kernel, rfl, by decide +kernel, by decide +kernel⟩
abbrev s_points_of : Stmt := topS 19
abbrev N_points_of : List Str := ["differences", "found", "one", "other", "number", "names", "point"]
theorem sc_points_of : FnScope N_points_of ["differences"] (defScope s_points_of) := ⟨rfl, rfl, rfl, by decide +kernel, rfl, by decide +kernel, by decide +kernel⟩
abbrev s_improved : Stmt := topS 20
abbrev N_improved : List Str := ["differences", "numbers", "steps", "is_changed", "index", "row", "one", "other", "number"]
theorem sc_improved : FnScope N_improved ["differences", "numbers", "steps"] (defScope s_improved) := ⟨rfl, rfl, rfl, by decide +kernel, rfl, by decide +kernel, by decide +kernel⟩
abbrev s_settled : Stmt := topS 21
abbrev N_settled : List Str := ["differences", "numbers", "steps", "points", "turn"]
theorem sc_settled : FnScope N_settled ["differences", "numbers"] (defScope s_settled) := ⟨rfl, rfl, rfl, by decide +kernel, rfl, by decide +kernel, by decide +kernel⟩
abbrev s_ring_in : Stmt := topS 22
abbrev N_ring_in : List Str := ["differences", "steps", "point", "start", "seen", "found", "here"]
theorem sc_ring_in : FnScope N_ring_in ["differences", "steps"] (defScope s_ring_in) := ⟨rfl, rfl, rfl, by decide +kernel, rfl, by decide +kernel, by decide +kernel⟩
abbrev s_ring_of : Stmt := topS 23
abbrev N_ring_of : List Str := ["differences", "steps", "has_ring", "point"]
theorem sc_ring_of : FnScope N_ring_of ["differences"] (defScope s_ring_of) := ⟨rfl, rfl, rfl, by decide +kernel, rfl, by decide +kernel, by decide +kernel⟩
abbrev s_fitted : Stmt := topS 24
abbrev N_fitted : List Str := ["differences", "points", "numbers", "point"]
theorem sc_fitted : FnScope N_fitted ["differences"] (defScope s_fitted) := ⟨rfl, rfl, rfl, by decide +kernel, rfl, by decide +kernel, by decide +kernel⟩
abbrev s_is_ring_of : Stmt := topS 25
abbrev N_is_ring_of : List Str := ["differences", "value", "index", "rows", "at", "row", "one", "other", "number"]
theorem sc_is_ring_of : FnScope N_is_ring_of ["differences", "value"] (defScope s_is_ring_of) := ⟨rfl, rfl, rfl, by decide +kernel, rfl, by decide +kernel, by decide +kernel⟩
abbrev s_fitting : Stmt := topS 26
abbrev N_fitting : List Str := ["differences"]
theorem sc_fitting : FnScope N_fitting ["differences"] (defScope s_fitting) := ⟨rfl, rfl, rfl, by decide +kernel, rfl, by decide +kernel, by decide +kernel⟩
abbrev s_is_fitting : Stmt := topS 27
abbrev N_is_fitting : List Str := ["differences", "value", "points", "point", "one", "other", "number"]
theorem sc_is_fitting : FnScope N_is_fitting ["differences", "value"] (defScope s_is_fitting) := ⟨rfl, rfl, rfl, by decide +kernel, rfl, by decide +kernel, by decide +kernel⟩
abbrev s_ring : Stmt := topS 28
abbrev N_ring : List Str := ["differences"]
theorem sc_ring : FnScope N_ring ["differences"] (defScope s_ring) := ⟨rfl, rfl, rfl, by decide +kernel, rfl, by decide +kernel, by decide +kernel⟩
abbrev s_is_ring : Stmt := topS 29
abbrev N_is_ring : List Str := ["differences", "value"]
theorem sc_is_ring : FnScope N_is_ring ["differences", "value"] (defScope s_is_ring) := ⟨rfl, rfl, rfl, by decide +kernel, rfl, by decide +kernel, by decide +kernel⟩
abbrev s__law_keg : Stmt := topS 31
abbrev N__law_keg : List Str := ["script", "at", "cell", "great", "seed"]
theorem sc__law_keg : FnScope N__law_keg ["script", "at"] (defScope s__law_keg) := ⟨rfl, rfl, rfl, by decide +kernel, rfl, by decide +kernel, by decide +kernel⟩
abbrev s__law_tap : Stmt := topS 32
abbrev N__law_tap : List Str := ["keg", "total", "found", "one", "two", "three"]
theorem sc__law_tap : FnScope N__law_tap ["keg", "total"] (defScope s__law_tap) := ⟨rfl, rfl, rfl, by decide +kernel, rfl, by decide +kernel, by decide +kernel⟩
abbrev s__law_choices : Stmt := topS 33
abbrev N__law_choices : List Str := ["keg", "items", "count", "left", "found", "turn"]
theorem sc__law_choices : FnScope N__law_choices ["keg", "items", "count"] (defScope s__law_choices) := ⟨rfl, rfl, rfl, by decide +kernel, rfl, by decide +kernel, by decide +kernel⟩
abbrev s__law_points_drawn : Stmt := topS 34
abbrev N__law_points_drawn : List Str := ["keg", "count", "some"]
theorem sc__law_points_drawn : FnScope N__law_points_drawn ["keg", "count"] (defScope s__law_points_drawn) := ⟨rfl, rfl, rfl, by decide +kernel, rfl, by decide +kernel, by decide +kernel⟩
abbrev s__law_points_in : Stmt := topS 35
abbrev N__law_points_in : List Str := ["differences", "found", "row", "point", "names"]
theorem sc__law_points_in : FnScope N__law_points_in ["differences"] (defScope s__law_points_in) := ⟨rfl, rfl, rfl, by decide +kernel, rfl, by decide +kernel, by decide +kernel⟩
abbrev s__law_choice : Stmt := topS 36
abbrev N__law_choice : List Str := ["keg", "items"]
theorem sc__law_choice : FnScope N__law_choice ["keg", "items"] (defScope s__law_choice) := ⟨rfl, rfl, rfl, by decide +kernel, rfl, by decide +kernel, by decide +kernel⟩
abbrev s__law_near_numbers : Stmt := topS 37
abbrev N__law_near_numbers : List Str := ["keg", "differences", "numbers", "rows", "point", "way", "row", "old", "one", "number", "odd", "some"]
theorem sc__law_near_numbers : FnScope N__law_near_numbers ["keg", "differences", "numbers"] (defScope s__law_near_numbers) := ⟨rfl, rfl, rfl, by decide +kernel, rfl, by decide +kernel, by decide +kernel⟩
abbrev s__law_drawn_walk : Stmt := topS 38
abbrev N__law_drawn_walk : List Str := ["keg", "differences", "found", "turn", "some", "at"]
theorem sc__law_drawn_walk : FnScope N__law_drawn_walk ["keg", "differences"] (defScope s__law_drawn_walk) := ⟨rfl, rfl, rfl, by decide +kernel, rfl, by decide +kernel, by decide +kernel⟩
abbrev s__law_near_ring : Stmt := topS 39
abbrev N__law_near_ring : List Str := ["keg", "differences", "found", "row", "many", "at", "way", "some", "one"]
theorem sc__law_near_ring : FnScope N__law_near_ring ["keg", "differences", "found"] (defScope s__law_near_ring) := ⟨rfl, rfl, rfl, by decide +kernel, rfl, by decide +kernel, by decide +kernel⟩
abbrev s__law_is_whole : Stmt := topS 40
abbrev N__law_is_whole : List Str := ["value"]
theorem sc__law_is_whole : FnScope N__law_is_whole ["value"] (defScope s__law_is_whole) := ⟨rfl, rfl, rfl, by decide +kernel, rfl, by decide +kernel, by decide +kernel⟩
abbrev s__law_are_true : Stmt := topS 41
abbrev N__law_are_true : List Str := ["differences", "numbers", "row"]
theorem sc__law_are_true : FnScope N__law_are_true ["differences", "numbers"] (defScope s__law_are_true) := ⟨rfl, rfl, rfl, by decide +kernel, rfl, by decide +kernel, by decide +kernel⟩
abbrev s__law_fits_due : Stmt := topS 42
abbrev N__law_fits_due : List Str := ["differences", "value", "points", "point"]
theorem sc__law_fits_due : FnScope N__law_fits_due ["differences", "value"] (defScope s__law_fits_due) := ⟨rfl, rfl, rfl, by decide +kernel, rfl, by decide +kernel, by decide +kernel⟩
abbrev s__law_ring_due : Stmt := topS 43
abbrev N__law_ring_due : List Str := ["differences", "value", "one", "rows", "at", "row"]
theorem sc__law_ring_due : FnScope N__law_ring_due ["differences", "value"] (defScope s__law_ring_due) := ⟨rfl, rfl, rfl, by decide +kernel, rfl, by decide +kernel, by decide +kernel⟩
abbrev s__law_right : Stmt := topS 44
abbrev N__law_right : List Str := ["keg", "differences", "numbers", "found", "drawn", "point", "some", "turn", "rows", "value", "due", "text", "again"]
theorem sc__law_right : FnScope N__law_right ["keg", "differences"] (defScope s__law_right) := ⟨rfl, rfl, rfl, by decide +kernel, rfl, by decide +kernel, by decide +kernel⟩
abbrev s__law_differences : Stmt := topS 45
abbrev N__law_differences : List Str := ["keg", "points", "count", "wide", "found", "turn", "one", "other"]
theorem sc__law_differences : FnScope N__law_differences ["keg", "points", "count", "wide"] (defScope s__law_differences) := ⟨rfl, rfl, rfl, by decide +kernel, rfl, by decide +kernel, by decide +kernel⟩
abbrev s_law : Stmt := topS 46
abbrev N_law : List Str := ["script", "at", "keg", "points", "turn", "rows", "some", "told", "value"]
theorem sc_law : FnScope N_law ["script"] (defScope s_law) := ⟨rfl, rfl, rfl, by decide +kernel, rfl, by decide +kernel, by decide +kernel⟩
/-- what the top has -/
structure Tops (mg : Str → Option Value) : Prop where
  b_abs : mg "abs" = none
  b_all : mg "all" = none
  b_bool : mg "bool" = none
  b_dict : mg "dict" = none
  b_enumerate : mg "enumerate" = none
  b_int : mg "int" = none
  b_isinstance : mg "isinstance" = none
  b_iter : mg "iter" = none
  b_len : mg "len" = none
  b_list : mg "list" = none
  b_max : mg "max" = none
  b_min : mg "min" = none
  b_next : mg "next" = none
  b_range : mg "range" = none
  b_repr : mg "repr" = none
  b_sorted : mg "sorted" = none
  b_str : mg "str" = none
  b_sum : mg "sum" = none
  b_tuple : mg "tuple" = none
  c_MAX_NAME : IsC mg "MAX_NAME" (.int 8)
  c_GREATEST : IsC mg "GREATEST" (.int (10 ^ 60))
  c_LETTERS : IsC mg "LETTERS" (.str "abcdefghijklmnopqrstuvwxyz")
  c_MAX_DIFFERENCES : IsC mg "MAX_DIFFERENCES" (.int 60)
  c_ZERO : IsC mg "ZERO" (.str "")
  c_NEW_MARK : IsC mg "NEW_MARK" (.str "*")
  c_DIGITS : IsC mg "DIGITS" (.str "0123456789")
end Mk


set_option Elab.async false
set_option linter.all false
set_option maxRecDepth 100000
set_option maxHeartbeats 400000
/-! comprehensions and loops while the heap grows -/
namespace Mk
open PySem PySem.Spec PyProof.Rows L2
theorem c3 : ((3 : Nat) : Int) = 3 := rfl
theorem line_lt {n m : Nat} (h : n ≤ m) (hm : m ≤ 1000000 := by decide) : n < sizeLine := Nat.lt_of_le_of_lt (Nat.le_trans h hm) (by decide)
theorem line_le {n m : Nat} (h : n ≤ m) (hm : m ≤ 1000000 := by decide) : n ≤ sizeLine := Nat.le_of_lt (line_lt h hm)
theorem take_s {α : Type} {l : List α} {i : Nat} {a : α} (h : l[i]? = some a) : l.take (i + 1) = l.take i ++ [a] := by rw [List.take_add_one, h]; rfl
theorem take_len {α : Type} {l : List α} {i n : Nat} (h : l.length ≤ n) : (l.take i).length ≤ n := by rw [List.length_take]; omega
theorem pair_at {α β : Type} {R : α → β → Prop} {as : List α} {bs : List β} (h : Paired R as bs) : ∀ {i : Nat} {b : β}, bs[i]? = some b → ∃ a, as[i]? = some a ∧ R a b := by
  induction h with
  | nil => intro i b e; cases e
  | cons r t ih =>
    intro i b e
    cases i with
    | zero => exact ⟨_, rfl, by cases e; exact r⟩
    | succ i => exact ih e
theorem pair_at' {α β : Type} {R : α → β → Prop} {as : List α} {bs : List β} (h : Paired R as bs) : ∀ {i : Nat} {a : α}, as[i]? = some a → ∃ b, bs[i]? = some b ∧ R a b := by
  induction h with
  | nil => intro i b e; cases e
  | cons r t ih =>
    intro i b e
    cases i with
    | zero => exact ⟨_, rfl, by cases e; exact r⟩
    | succ i => exact ih e
/-- the new list at D holds what A says -/
def PvG (H : Hp) (D : Addr) (A : Nat → List V → Hp → Prop) (i : Nat) (H' : Hp) : Prop := Gx H H' ∧ ∃ ys, H' D = some (.lst ys) ∧ A i ys H'
section
variable {H H1 H4 : Hp} {D : Addr} {A : Nat → List V → Hp → Prop} {i : Nat} {ys : List V} {y : V}
theorem PvG.ini (hD : H D = none) (a : A 0 [] (upd H D (.lst []))) : PvG H D A 0 (upd H D (.lst [])) := ⟨.new hD, [], upd_same, a⟩
theorem PvG.put (g : Gx H H4) (hD : H D = none) (e : H4 D = some (.lst ys)) (hl : ys.length < sizeLine) (a : A (i + 1) (ys ++ [y]) (upd H4 D (.lst (ys ++ [y])))) :
    ∃ acc, H4 D = some (.lst acc) ∧ acc.length < sizeLine ∧ PvG H D A (i + 1) (upd H4 D (.lst (acc ++ [y]))) := ⟨ys, e, hl, g.mut hD, _, upd_same, a⟩
end
/-- the lists by maps -/
def AMap {α : Type} (l : List α) (f : α → V) : Nat → List V → Hp → Prop := fun i ys _ => ys = (l.take i).map f
def AFil {α : Type} (l : List α) (p : α → Bool) (f : α → V) : Nat → List V → Hp → Prop := fun i ys _ => ys = ((l.take i).filter p).map f
section
variable {α : Type} {l : List α} {f : α → V} {p : α → Bool} {i : Nat} {a : α} {ys : List V} {H : Hp}
theorem AMap.ini : AMap l f 0 [] H := by rw [AMap, List.take_zero]; rfl
theorem AMap.put (h : AMap l f i ys H) {H' : Hp} (e : l[i]? = some a) : AMap l f (i + 1) (ys ++ [f a]) H' := by
  rw [AMap] at *
  rw [take_s e, List.map_append, h]; rfl
theorem AMap.fin (h : AMap l f l.length ys H) : ys = l.map f := by rw [AMap, List.take_length] at h; exact h
theorem AMap.len (h : AMap l f i ys H) {n : Nat} (hn : l.length ≤ n) : ys.length ≤ n := by rw [h, List.length_map]; exact take_len hn
theorem AFil.ini : AFil l p f 0 [] H := by rw [AFil, List.take_zero]; rfl
theorem AFil.put (h : AFil l p f i ys H) {H' : Hp} (e : l[i]? = some a) (hp : p a = true) : AFil l p f (i + 1) (ys ++ [f a]) H' := by
  rw [AFil] at *
  rw [take_s e, List.filter_append, List.map_append, h, List.filter_cons_of_pos hp]; rfl
theorem AFil.skip (h : AFil l p f i ys H) {H' : Hp} (e : l[i]? = some a) (hp : p a = false) : AFil l p f (i + 1) ys H' := by
  rw [AFil] at *
  rw [take_s e, List.filter_append, h, List.filter_cons_of_neg (by simp [hp])]; simp
theorem AFil.fin (h : AFil l p f l.length ys H) : ys = (l.filter p).map f := by rw [AFil, List.take_length] at h; exact h
theorem AFil.len (h : AFil l p f i ys H) {n : Nat} (hn : l.length ≤ n) : ys.length ≤ n := by
  rw [h, List.length_map]
  exact Nat.le_trans (List.length_filter_le _ _) (take_len hn)
end
theorem all_bl {α : Type} {l : List α} {f : α → Bool} : ((l.map f).all id) = l.all f := by rw [List.all_map]; rfl
end Mk


set_option Elab.async false
set_option linter.all false
set_option maxRecDepth 100000
set_option maxHeartbeats 400000
/-! the plain judges: is_integer, is_name, is_new, is_place, is_point, is_difference -/
namespace Mk
open PySem PySem.Spec PyProof.Rows L2
section
variable {P : Program} {w : World} {K : PySem.W.Frag} {mg : Str → Option Value} {base : Heap}
theorem isA {H : Hp} {Q : VK} {x : V} {t T : String} {b : Bool} (h : TyA P w K H x t) (e : kitB t T = some b) (q : Q (.bl b) H) : rIsA P w K [x, .ty T] H Q := ⟨x, T, t, b, rfl, h, e, q⟩
def spIsInt : Sp := fun vs H Q _ => ∃ i : Int, vs = [.int i] ∧ -(10 ^ 60) < i ∧ i < 10 ^ 60 ∧ Q (.bl true) H
theorem C_is_integer (T : Tops mg) (D : Def K mg "is_integer" s_is_integer ["value"]) : Cal P w K mg base "is_integer" 1 ["value"] spIsInt := by
  refine Cal.of D sc_is_integer (fun vs H Q E h => ?_) (fun f cdv A outer s H vs Q E hr h => ?_)
  · obtain ⟨i, rfl, _⟩ := h; rfl
  · obtain ⟨i, rfl, h1, h2, q⟩ := h
    have hu := hu_of hr
    have h0 := hr.units0
    refine ⟨_, (pss_one (ps_ret (pe_and (pe_callB (call_isA' (P := P) (w := w) (K := K) rfl rfl rfl) (by rfl) T.b_isinstance (by decide +kernel) (pa_cons (pv 0) (pa_cons (pe_bltn (v := .ty "int") (u := .type "int") (by rfl) T.b_int (by decide +kernel) rfl) pa_nil))) (pe_and (pe_not (pe_callB (call_isA' (P := P) (w := w) (K := K) rfl rfl rfl) (by rfl) T.b_isinstance (by decide +kernel) (pa_cons (pv 0) (pa_cons (pe_bltn (v := .ty "bool") (u := .type "bool") (by rfl) T.b_bool (by decide +kernel) rfl) pa_nil)))) (pe_one (pe_chain op_lt op_lt (pe_un un_neg (pe_const T.c_GREATEST (by rfl))) (pv 0) (pe_const T.c_GREATEST (by rfl)))))))), ?_⟩
    simp only [cxOf, Cx.nox, L2.start, tRet, tAndV, tOrV, tNotV, tCB, tCons, tNil, tVar, tC, tOp, tUn, tChain, tIfS, tTest, tSeq, tNext, tB, tOr, tAnd, tNot, tAsg, tDrop, tCall, rI0, rI, rU, List.cons_append, List.nil_append, List.append_nil, List.map_cons, List.map_nil, List.length_cons, List.length_nil, Nat.reduceAdd, Nat.reduceSub, List.replicate_succ, List.replicate_zero, List.getElem?_cons_zero, List.getElem?_cons_succ, Option.some.injEq, exists_eq_left, exists_eq_left', exists_eq_right, V.int.injEq, V.bl.injEq, V.str.injEq, V.ref.injEq, true_and, and_true, exists_and_left, if_true, if_false, gTup, gCons, gNil, gSub, gName, Mk.rSetD, List.set_cons_zero, List.set_cons_succ, Bool.false_eq_true, List.cons.injEq, Bool.not_true, Bool.not_false, eq_self, decide_true, decide_false, c3, N_is_integer]
    refine isA (.int i) rfl ?_
    simp only [cxOf, Cx.nox, L2.start, tRet, tAndV, tOrV, tNotV, tCB, tCons, tNil, tVar, tC, tOp, tUn, tChain, tIfS, tTest, tSeq, tNext, tB, tOr, tAnd, tNot, tAsg, tDrop, tCall, rI0, rI, rU, List.cons_append, List.nil_append, List.append_nil, List.map_cons, List.map_nil, List.length_cons, List.length_nil, Nat.reduceAdd, Nat.reduceSub, List.replicate_succ, List.replicate_zero, List.getElem?_cons_zero, List.getElem?_cons_succ, Option.some.injEq, exists_eq_left, exists_eq_left', exists_eq_right, V.int.injEq, V.bl.injEq, V.str.injEq, V.ref.injEq, true_and, and_true, exists_and_left, if_true, if_false, gTup, gCons, gNil, gSub, gName, Mk.rSetD, List.set_cons_zero, List.set_cons_succ, Bool.false_eq_true, List.cons.injEq, Bool.not_true, Bool.not_false, eq_self, decide_true, decide_false, c3]
    refine isA (.int i) rfl ?_
    simp only [cxOf, Cx.nox, L2.start, tRet, tAndV, tOrV, tNotV, tCB, tCons, tNil, tVar, tC, tOp, tUn, tChain, tIfS, tTest, tSeq, tNext, tB, tOr, tAnd, tNot, tAsg, tDrop, tCall, rI0, rI, rU, List.cons_append, List.nil_append, List.append_nil, List.map_cons, List.map_nil, List.length_cons, List.length_nil, Nat.reduceAdd, Nat.reduceSub, List.replicate_succ, List.replicate_zero, List.getElem?_cons_zero, List.getElem?_cons_succ, Option.some.injEq, exists_eq_left, exists_eq_left', exists_eq_right, V.int.injEq, V.bl.injEq, V.str.injEq, V.ref.injEq, true_and, and_true, exists_and_left, if_true, if_false, gTup, gCons, gNil, gSub, gName, Mk.rSetD, List.set_cons_zero, List.set_cons_succ, Bool.false_eq_true, List.cons.injEq, Bool.not_true, Bool.not_false, eq_self, decide_true, decide_false, c3, h1, h2, decide_true]
    exact q
def letterB (c : Nat) : Bool := decide (c ∈ ("abcdefghijklmnopqrstuvwxyz" : Str).cps.toList)
def nameB (z : Str) : Bool := decide (1 ≤ z.length) && decide (z.length ≤ 8) && z.cps.toList.all letterB
def spIsName : Sp := fun vs H Q _ => ∃ z : Str, vs = [.str z] ∧ z.length ≤ 1000 ∧ ∀ H', Gx H H' → Q (.bl (nameB z)) H'
theorem len_of {z : Str} {l : List Nat} (h : z.cps.toList = l) : z.length = l.length := by rw [← h]; rfl
theorem cut1S {z : Str} {c : Nat} {l : List Nat} (h : z.cps.toList = c :: l) : cutS z (some 1) none = ⟨l.toArray⟩ := by
  unfold cutS
  rw [len_of h, h, show HT.sIx (c :: l).length 0 (some 1) = min 1 (c :: l).length from HT.sIx_nat _ 0 1, HT.sIx_none, List.length_cons, show min 1 (l.length + 1) = 1 by omega, show l.length + 1 - 1 = l.length by omega, List.drop_one, List.tail_cons, List.take_length]
theorem star_is {c : Nat} : ((⟨#[c]⟩ : Str) = Str.ofString "*") = (c = 42) := by rw [show Str.ofString "*" = ⟨#[42]⟩ from rfl]; simp
theorem nil_is {c : Nat} : ((⟨#[c]⟩ : Str) = Str.ofString "0") = (c = 48) := by rw [show Str.ofString "0" = ⟨#[48]⟩ from rfl]; simp
theorem C_is_name (T : Tops mg) (D : Def K mg "is_name" s_is_name ["value"]) : Cal P w K mg base "is_name" 1 ["value"] spIsName := by
  refine Cal.of D sc_is_name (fun vs H Q E h => ?_) (fun f cdv A outer s H vs Q E hr h => ?_)
  · obtain ⟨i, rfl, _⟩ := h; rfl
  · obtain ⟨z, rfl, hl, q⟩ := h
    have hu := hu_of hr
    have h0 := hr.units0
    refine ⟨_, (pss_one (ps_ret (pe_and (pe_callB (call_isA' (P := P) (w := w) (K := K) rfl rfl rfl) (by rfl) T.b_isinstance (by decide +kernel) (pa_cons (pv 0) (pa_cons (pe_bltn (v := .ty "str") (u := .type "str") (by rfl) T.b_str (by decide +kernel) rfl) pa_nil))) (pe_and (pe_chain op_le op_le pe_int (pe_callB call_len_str (by rfl) T.b_len (by decide +kernel) (pa_cons (pv 0) pa_nil)) (pe_const T.c_MAX_NAME (by rfl))) (pe_one (pe_callB (cr_all rfl) (by rfl) T.b_all (by decide +kernel) (pa_cons (pe_lc (own := [("letter", 1)]) rfl sc_is_name.nd (pi_str (pv 0)) (blkOk_by (own := [("letter", 1)]) (N := N_is_name) (sc := defScope s_is_name) (by decide +kernel)) (fun _ _ _ _ _ => (pg_name (i := 1) sc_is_name.nd rfl (Or.inl rfl))) (fun _ _ _ _ _ => pts_nil) (fun _ _ _ _ _ => (pe_cmpR op_in_sign (pv 1) (pe_const T.c_LETTERS (by rfl)) (by rfl)))) pa_nil))))))), ?_⟩
    simp only [cxOf, Cx.nox, L2.start, tRet, tAndV, tOrV, tNotV, tCB, tCons, tNil, tVar, tC, tOp, tUn, tChain, tIfS, tTest, tSeq, tNext, tB, tOr, tAnd, tNot, tAsg, tDrop, tCall, rI0, rI, rU, List.cons_append, List.nil_append, List.append_nil, List.map_cons, List.map_nil, List.length_cons, List.length_nil, Nat.reduceAdd, Nat.reduceSub, List.replicate_succ, List.replicate_zero, List.getElem?_cons_zero, List.getElem?_cons_succ, Option.some.injEq, exists_eq_left, exists_eq_left', exists_eq_right, V.int.injEq, V.bl.injEq, V.str.injEq, V.ref.injEq, true_and, and_true, exists_and_left, if_true, if_false, gTup, gCons, gNil, gSub, gName, Mk.rSetD, List.set_cons_zero, List.set_cons_succ, Bool.false_eq_true, List.cons.injEq, Bool.not_true, Bool.not_false, eq_self, decide_true, decide_false, c3, N_is_name]
    refine isA (.str z) rfl ?_
    simp only [cxOf, Cx.nox, L2.start, tRet, tAndV, tOrV, tNotV, tCB, tCons, tNil, tVar, tC, tOp, tUn, tChain, tIfS, tTest, tSeq, tNext, tB, tOr, tAnd, tNot, tAsg, tDrop, tCall, rI0, rI, rU, List.cons_append, List.nil_append, List.append_nil, List.map_cons, List.map_nil, List.length_cons, List.length_nil, Nat.reduceAdd, Nat.reduceSub, List.replicate_succ, List.replicate_zero, List.getElem?_cons_zero, List.getElem?_cons_succ, Option.some.injEq, exists_eq_left, exists_eq_left', exists_eq_right, V.int.injEq, V.bl.injEq, V.str.injEq, V.ref.injEq, true_and, and_true, exists_and_left, if_true, if_false, gTup, gCons, gNil, gSub, gName, Mk.rSetD, List.set_cons_zero, List.set_cons_succ, Bool.false_eq_true, List.cons.injEq, Bool.not_true, Bool.not_false, eq_self, decide_true, decide_false, c3, N_is_name]
    refine ⟨line_le hl, ?_⟩
    by_cases a1 : 1 ≤ z.length
    · by_cases a2 : z.length ≤ 8
      · have b1 : (1 : Int) ≤ z.length := by omega
        have b2 : (z.length : Int) ≤ 8 := by omega
        simp only [cxOf, Cx.nox, L2.start, tRet, tAndV, tOrV, tNotV, tCB, tCons, tNil, tVar, tC, tOp, tUn, tChain, tIfS, tTest, tSeq, tNext, tB, tOr, tAnd, tNot, tAsg, tDrop, tCall, rI0, rI, rU, List.cons_append, List.nil_append, List.append_nil, List.map_cons, List.map_nil, List.length_cons, List.length_nil, Nat.reduceAdd, Nat.reduceSub, List.replicate_succ, List.replicate_zero, List.getElem?_cons_zero, List.getElem?_cons_succ, Option.some.injEq, exists_eq_left, exists_eq_left', exists_eq_right, V.int.injEq, V.bl.injEq, V.str.injEq, V.ref.injEq, true_and, and_true, exists_and_left, if_true, if_false, gTup, gCons, gNil, gSub, gName, Mk.rSetD, List.set_cons_zero, List.set_cons_succ, Bool.false_eq_true, List.cons.injEq, Bool.not_true, Bool.not_false, eq_self, decide_true, decide_false, c3, b1, b2, decide_true]
        refine ⟨_, rfl, z, rfl, fun D hD => lc_it walk_str (PvG H D (AMap z.cps.toList fun c => V.bl (letterB c))) (.ini hD .ini) (fun _ _ _ _ => trivial) (fun i x H1 H2 hi hP hY => ?_) (fun H1 hP => ?_)⟩
        · obtain ⟨rfl, c, hc, rfl⟩ := hY
          obtain ⟨g, ys, e, a⟩ := hP
          simp only [cxOf, Cx.nox, L2.start, tRet, tAndV, tOrV, tNotV, tCB, tCons, tNil, tVar, tC, tOp, tUn, tChain, tIfS, tTest, tSeq, tNext, tB, tOr, tAnd, tNot, tAsg, tDrop, tCall, rI0, rI, rU, List.cons_append, List.nil_append, List.append_nil, List.map_cons, List.map_nil, List.length_cons, List.length_nil, Nat.reduceAdd, Nat.reduceSub, List.replicate_succ, List.replicate_zero, List.getElem?_cons_zero, List.getElem?_cons_succ, Option.some.injEq, exists_eq_left, exists_eq_left', exists_eq_right, V.int.injEq, V.bl.injEq, V.str.injEq, V.ref.injEq, true_and, and_true, exists_and_left, if_true, if_false, gTup, gCons, gNil, gSub, gName, Mk.rSetD, List.set_cons_zero, List.set_cons_succ, Bool.false_eq_true, List.cons.injEq, Bool.not_true, Bool.not_false, eq_self, decide_true, decide_false, c3, gName, tYes]
          exact ⟨rfl, _, rfl, c, rfl, PvG.put g hD e (line_lt (a.len (n := 1000) hl)) (a.put (by simpa using hc))⟩
        · obtain ⟨g, ys, e, a⟩ := hP
          have a := AMap.fin (l := z.cps.toList) (by simpa using a)
          refine ⟨D, z.cps.toList.map letterB, rfl, .inl (.inl (by rw [e, a, List.map_map]; rfl)), ?_⟩
          have := q _ g
          rw [nameB, decide_eq_true a1, decide_eq_true a2] at this
          rw [all_bl]
          exact this
      · have b1 : (1 : Int) ≤ z.length := by omega
        have b2 : ¬ (z.length : Int) ≤ 8 := by omega
        simp only [cxOf, Cx.nox, L2.start, tRet, tAndV, tOrV, tNotV, tCB, tCons, tNil, tVar, tC, tOp, tUn, tChain, tIfS, tTest, tSeq, tNext, tB, tOr, tAnd, tNot, tAsg, tDrop, tCall, rI0, rI, rU, List.cons_append, List.nil_append, List.append_nil, List.map_cons, List.map_nil, List.length_cons, List.length_nil, Nat.reduceAdd, Nat.reduceSub, List.replicate_succ, List.replicate_zero, List.getElem?_cons_zero, List.getElem?_cons_succ, Option.some.injEq, exists_eq_left, exists_eq_left', exists_eq_right, V.int.injEq, V.bl.injEq, V.str.injEq, V.ref.injEq, true_and, and_true, exists_and_left, if_true, if_false, gTup, gCons, gNil, gSub, gName, Mk.rSetD, List.set_cons_zero, List.set_cons_succ, Bool.false_eq_true, List.cons.injEq, Bool.not_true, Bool.not_false, eq_self, decide_true, decide_false, c3, b1, b2, decide_true, decide_false]
        have := q H .refl
        rw [nameB, decide_eq_false a2] at this
        simpa using this
    · have b1 : ¬ (1 : Int) ≤ z.length := by omega
      simp only [cxOf, Cx.nox, L2.start, tRet, tAndV, tOrV, tNotV, tCB, tCons, tNil, tVar, tC, tOp, tUn, tChain, tIfS, tTest, tSeq, tNext, tB, tOr, tAnd, tNot, tAsg, tDrop, tCall, rI0, rI, rU, List.cons_append, List.nil_append, List.append_nil, List.map_cons, List.map_nil, List.length_cons, List.length_nil, Nat.reduceAdd, Nat.reduceSub, List.replicate_succ, List.replicate_zero, List.getElem?_cons_zero, List.getElem?_cons_succ, Option.some.injEq, exists_eq_left, exists_eq_left', exists_eq_right, V.int.injEq, V.bl.injEq, V.str.injEq, V.ref.injEq, true_and, and_true, exists_and_left, if_true, if_false, gTup, gCons, gNil, gSub, gName, Mk.rSetD, List.set_cons_zero, List.set_cons_succ, Bool.false_eq_true, List.cons.injEq, Bool.not_true, Bool.not_false, eq_self, decide_true, decide_false, c3, b1, decide_false]
      have := q H .refl
      rw [nameB, decide_eq_false a1] at this
      simpa using this
def digitB (c : Nat) : Bool := decide (c ∈ ("0123456789" : Str).cps.toList)
/-- a '*' and a number that does not begin with 0 -/
def newB (z : Str) : Bool := match z.cps.toList with
  | c :: d :: r => decide (c = 42) && !decide (d = 48) && (d :: r).all digitB
  | _ => false
def spIsNew : Sp := fun vs H Q _ => ∃ z : Str, vs = [.str z] ∧ z.length ≤ 1000 ∧ ∀ H', Gx H H' → Q (.bl (newB z)) H'
theorem C_is_new (T : Tops mg) (D : Def K mg "is_new" s_is_new ["value"]) : Cal P w K mg base "is_new" 1 ["value"] spIsNew := by
  refine Cal.of D sc_is_new (fun vs H Q E h => ?_) (fun f cdv A outer s H vs Q E hr h => ?_)
  · obtain ⟨i, rfl, _⟩ := h; rfl
  · obtain ⟨z, rfl, hl, q⟩ := h
    have hu := hu_of hr
    have h0 := hr.units0
    refine ⟨_, (pss_cons (ps_if (PW.pt (pw_or (pt_not (pt_val (pe_callB (call_isA' (P := P) (w := w) (K := K) rfl rfl rfl) (by rfl) T.b_isinstance (by decide +kernel) (pa_cons (pv 0) (pa_cons (pe_bltn (v := .ty "str") (u := .type "str") (by rfl) T.b_str (by decide +kernel) rfl) pa_nil))))) (pw_or (pt_cmpR op_lt (pe_callB call_len_str (by rfl) T.b_len (by decide +kernel) (pa_cons (pv 0) pa_nil)) pe_int (nomark _)) (pw_or (pt_cmpR op_ne (pe_ix ix_str (pv 0) pe_int (fun _ _ => rfl)) (pe_const T.c_NEW_MARK (by rfl)) (nomark _)) (pw_or1 (pt_cmpR op_eq (pe_ix ix_str (pv 0) pe_int (fun _ _ => rfl)) pe_str (nomark _))))))) (pss_one (ps_ret pe_bl)) pss_nil)
      (pss_one (ps_ret (pe_callB (cr_all rfl) (by rfl) T.b_all (by decide +kernel) (pa_cons (pe_lc (own := [("digit", 1)]) rfl sc_is_new.nd (pi_str (pe_slice sl_str (pv 0) (po_some pe_int) po_none)) (blkOk_by (own := [("digit", 1)]) (N := N_is_new) (sc := defScope s_is_new) (by decide +kernel)) (fun _ _ _ _ _ => (pg_name (i := 1) sc_is_new.nd rfl (Or.inl rfl))) (fun _ _ _ _ _ => pts_nil) (fun _ _ _ _ _ => (pe_cmpR op_in_sign (pv 1) (pe_const T.c_DIGITS (by rfl)) (by rfl)))) pa_nil))))), ?_⟩
    simp only [cxOf, Cx.nox, L2.start, tRet, tAndV, tOrV, tNotV, tCB, tCons, tNil, tVar, tC, tOp, tUn, tChain, tIfS, tTest, tSeq, tNext, tB, tOr, tAnd, tNot, tAsg, tDrop, tCall, rI0, rI, rU, List.cons_append, List.nil_append, List.append_nil, List.map_cons, List.map_nil, List.length_cons, List.length_nil, Nat.reduceAdd, Nat.reduceSub, List.replicate_succ, List.replicate_zero, List.getElem?_cons_zero, List.getElem?_cons_succ, Option.some.injEq, exists_eq_left, exists_eq_left', exists_eq_right, V.int.injEq, V.bl.injEq, V.str.injEq, V.ref.injEq, true_and, and_true, exists_and_left, if_true, if_false, gTup, gCons, gNil, gSub, gName, Mk.rSetD, List.set_cons_zero, List.set_cons_succ, Bool.false_eq_true, List.cons.injEq, Bool.not_true, Bool.not_false, eq_self, decide_true, decide_false, c3, N_is_new]
    refine isA (.str z) rfl ?_
    simp only [cxOf, Cx.nox, L2.start, tRet, tAndV, tOrV, tNotV, tCB, tCons, tNil, tVar, tC, tOp, tUn, tChain, tIfS, tTest, tSeq, tNext, tB, tOr, tAnd, tNot, tAsg, tDrop, tCall, rI0, rI, rU, List.cons_append, List.nil_append, List.append_nil, List.map_cons, List.map_nil, List.length_cons, List.length_nil, Nat.reduceAdd, Nat.reduceSub, List.replicate_succ, List.replicate_zero, List.getElem?_cons_zero, List.getElem?_cons_succ, Option.some.injEq, exists_eq_left, exists_eq_left', exists_eq_right, V.int.injEq, V.bl.injEq, V.str.injEq, V.ref.injEq, true_and, and_true, exists_and_left, if_true, if_false, gTup, gCons, gNil, gSub, gName, Mk.rSetD, List.set_cons_zero, List.set_cons_succ, Bool.false_eq_true, List.cons.injEq, Bool.not_true, Bool.not_false, eq_self, decide_true, decide_false, c3]
    refine ⟨line_le hl, ?_⟩
    have q0 := q H .refl
    rcases hz : z.cps.toList with _ | ⟨c, _ | ⟨d, r⟩⟩
    · have b1 : (z.length : Int) < 2 := by rw [len_of hz]; decide
      rw [newB, hz] at q0
      simp only [cxOf, Cx.nox, L2.start, tRet, tAndV, tOrV, tNotV, tCB, tCons, tNil, tVar, tC, tOp, tUn, tChain, tIfS, tTest, tSeq, tNext, tB, tOr, tAnd, tNot, tAsg, tDrop, tCall, rI0, rI, rU, List.cons_append, List.nil_append, List.append_nil, List.map_cons, List.map_nil, List.length_cons, List.length_nil, Nat.reduceAdd, Nat.reduceSub, List.replicate_succ, List.replicate_zero, List.getElem?_cons_zero, List.getElem?_cons_succ, Option.some.injEq, exists_eq_left, exists_eq_left', exists_eq_right, V.int.injEq, V.bl.injEq, V.str.injEq, V.ref.injEq, true_and, and_true, exists_and_left, if_true, if_false, gTup, gCons, gNil, gSub, gName, Mk.rSetD, List.set_cons_zero, List.set_cons_succ, Bool.false_eq_true, List.cons.injEq, Bool.not_true, Bool.not_false, eq_self, decide_true, decide_false, c3, b1]
      exact q0
    · have b1 : (z.length : Int) < 2 := by rw [len_of hz, List.length_singleton]; decide
      rw [newB, hz] at q0
      simp only [cxOf, Cx.nox, L2.start, tRet, tAndV, tOrV, tNotV, tCB, tCons, tNil, tVar, tC, tOp, tUn, tChain, tIfS, tTest, tSeq, tNext, tB, tOr, tAnd, tNot, tAsg, tDrop, tCall, rI0, rI, rU, List.cons_append, List.nil_append, List.append_nil, List.map_cons, List.map_nil, List.length_cons, List.length_nil, Nat.reduceAdd, Nat.reduceSub, List.replicate_succ, List.replicate_zero, List.getElem?_cons_zero, List.getElem?_cons_succ, Option.some.injEq, exists_eq_left, exists_eq_left', exists_eq_right, V.int.injEq, V.bl.injEq, V.str.injEq, V.ref.injEq, true_and, and_true, exists_and_left, if_true, if_false, gTup, gCons, gNil, gSub, gName, Mk.rSetD, List.set_cons_zero, List.set_cons_succ, Bool.false_eq_true, List.cons.injEq, Bool.not_true, Bool.not_false, eq_self, decide_true, decide_false, c3, b1]
      exact q0
    · have b1 : ¬ (z.length : Int) < 2 := by rw [len_of hz, List.length_cons, List.length_cons]; omega
      rw [newB, hz] at q0
      simp only [cxOf, Cx.nox, L2.start, tRet, tAndV, tOrV, tNotV, tCB, tCons, tNil, tVar, tC, tOp, tUn, tChain, tIfS, tTest, tSeq, tNext, tB, tOr, tAnd, tNot, tAsg, tDrop, tCall, rI0, rI, rU, List.cons_append, List.nil_append, List.append_nil, List.map_cons, List.map_nil, List.length_cons, List.length_nil, Nat.reduceAdd, Nat.reduceSub, List.replicate_succ, List.replicate_zero, List.getElem?_cons_zero, List.getElem?_cons_succ, Option.some.injEq, exists_eq_left, exists_eq_left', exists_eq_right, V.int.injEq, V.bl.injEq, V.str.injEq, V.ref.injEq, true_and, and_true, exists_and_left, if_true, if_false, gTup, gCons, gNil, gSub, gName, Mk.rSetD, List.set_cons_zero, List.set_cons_succ, Bool.false_eq_true, List.cons.injEq, Bool.not_true, Bool.not_false, eq_self, decide_true, decide_false, c3, b1, decide_false]
      refine ⟨z, 0, c, rfl, rfl, line_le hl, by rw [hz]; exact atI_nat (j := 0) rfl, rfl, ?_⟩
      by_cases c1 : c = 42
      · subst c1
        simp only [cxOf, Cx.nox, L2.start, tRet, tAndV, tOrV, tNotV, tCB, tCons, tNil, tVar, tC, tOp, tUn, tChain, tIfS, tTest, tSeq, tNext, tB, tOr, tAnd, tNot, tAsg, tDrop, tCall, rI0, rI, rU, List.cons_append, List.nil_append, List.append_nil, List.map_cons, List.map_nil, List.length_cons, List.length_nil, Nat.reduceAdd, Nat.reduceSub, List.replicate_succ, List.replicate_zero, List.getElem?_cons_zero, List.getElem?_cons_succ, Option.some.injEq, exists_eq_left, exists_eq_left', exists_eq_right, V.int.injEq, V.bl.injEq, V.str.injEq, V.ref.injEq, true_and, and_true, exists_and_left, if_true, if_false, gTup, gCons, gNil, gSub, gName, Mk.rSetD, List.set_cons_zero, List.set_cons_succ, Bool.false_eq_true, List.cons.injEq, Bool.not_true, Bool.not_false, eq_self, decide_true, decide_false, c3, star_is, nil_is, decide_true]
        refine ⟨z, 1, d, rfl, rfl, line_le hl, by rw [hz]; exact atI_nat (j := 1) rfl, rfl, ?_⟩
        by_cases c2 : d = 48
        · subst c2
          simp only [cxOf, Cx.nox, L2.start, tRet, tAndV, tOrV, tNotV, tCB, tCons, tNil, tVar, tC, tOp, tUn, tChain, tIfS, tTest, tSeq, tNext, tB, tOr, tAnd, tNot, tAsg, tDrop, tCall, rI0, rI, rU, List.cons_append, List.nil_append, List.append_nil, List.map_cons, List.map_nil, List.length_cons, List.length_nil, Nat.reduceAdd, Nat.reduceSub, List.replicate_succ, List.replicate_zero, List.getElem?_cons_zero, List.getElem?_cons_succ, Option.some.injEq, exists_eq_left, exists_eq_left', exists_eq_right, V.int.injEq, V.bl.injEq, V.str.injEq, V.ref.injEq, true_and, and_true, exists_and_left, if_true, if_false, gTup, gCons, gNil, gSub, gName, Mk.rSetD, List.set_cons_zero, List.set_cons_succ, Bool.false_eq_true, List.cons.injEq, Bool.not_true, Bool.not_false, eq_self, decide_true, decide_false, c3, star_is, nil_is, decide_true]
          simpa using q0
        · simp only [cxOf, Cx.nox, L2.start, tRet, tAndV, tOrV, tNotV, tCB, tCons, tNil, tVar, tC, tOp, tUn, tChain, tIfS, tTest, tSeq, tNext, tB, tOr, tAnd, tNot, tAsg, tDrop, tCall, rI0, rI, rU, List.cons_append, List.nil_append, List.append_nil, List.map_cons, List.map_nil, List.length_cons, List.length_nil, Nat.reduceAdd, Nat.reduceSub, List.replicate_succ, List.replicate_zero, List.getElem?_cons_zero, List.getElem?_cons_succ, Option.some.injEq, exists_eq_left, exists_eq_left', exists_eq_right, V.int.injEq, V.bl.injEq, V.str.injEq, V.ref.injEq, true_and, and_true, exists_and_left, if_true, if_false, gTup, gCons, gNil, gSub, gName, Mk.rSetD, List.set_cons_zero, List.set_cons_succ, Bool.false_eq_true, List.cons.injEq, Bool.not_true, Bool.not_false, eq_self, decide_true, decide_false, c3, star_is, nil_is, c2, decide_false]
          refine ⟨_, rfl, _, rfl, z, rfl, line_le hl, _, rfl, fun D hD => ?_⟩
          rw [cut1S hz]
          refine lc_it walk_str (PvG H D (AMap (d :: r) fun c => V.bl (digitB c))) (PvG.ini hD .ini) (fun _ _ _ _ => trivial) (fun i x H1 H2 hi hP hY => ?_) (fun H1 hP => ?_)
          · obtain ⟨rfl, c, hc, rfl⟩ := hY
            obtain ⟨g, ys, e, a⟩ := hP
            simp only [cxOf, Cx.nox, L2.start, tRet, tAndV, tOrV, tNotV, tCB, tCons, tNil, tVar, tC, tOp, tUn, tChain, tIfS, tTest, tSeq, tNext, tB, tOr, tAnd, tNot, tAsg, tDrop, tCall, rI0, rI, rU, List.cons_append, List.nil_append, List.append_nil, List.map_cons, List.map_nil, List.length_cons, List.length_nil, Nat.reduceAdd, Nat.reduceSub, List.replicate_succ, List.replicate_zero, List.getElem?_cons_zero, List.getElem?_cons_succ, Option.some.injEq, exists_eq_left, exists_eq_left', exists_eq_right, V.int.injEq, V.bl.injEq, V.str.injEq, V.ref.injEq, true_and, and_true, exists_and_left, if_true, if_false, gTup, gCons, gNil, gSub, gName, Mk.rSetD, List.set_cons_zero, List.set_cons_succ, Bool.false_eq_true, List.cons.injEq, Bool.not_true, Bool.not_false, eq_self, decide_true, decide_false, c3, gName, tYes]
            exact ⟨rfl, _, rfl, c, rfl, PvG.put g hD e (line_lt (a.len (n := 1000) (by rw [len_of hz] at hl; simp at hl ⊢; omega))) (a.put (by simpa using hc))⟩
          · obtain ⟨g, ys, e, a⟩ := hP
            have a := AMap.fin (l := d :: r) (by simpa using a)
            refine ⟨D, (d :: r).map digitB, rfl, .inl (.inl (by rw [e, a, List.map_map]; rfl)), ?_⟩
            have := q _ g
            rw [newB, hz] at this
            rw [all_bl]
            simpa [c2] using this
      · simp only [cxOf, Cx.nox, L2.start, tRet, tAndV, tOrV, tNotV, tCB, tCons, tNil, tVar, tC, tOp, tUn, tChain, tIfS, tTest, tSeq, tNext, tB, tOr, tAnd, tNot, tAsg, tDrop, tCall, rI0, rI, rU, List.cons_append, List.nil_append, List.append_nil, List.map_cons, List.map_nil, List.length_cons, List.length_nil, Nat.reduceAdd, Nat.reduceSub, List.replicate_succ, List.replicate_zero, List.getElem?_cons_zero, List.getElem?_cons_succ, Option.some.injEq, exists_eq_left, exists_eq_left', exists_eq_right, V.int.injEq, V.bl.injEq, V.str.injEq, V.ref.injEq, true_and, and_true, exists_and_left, if_true, if_false, gTup, gCons, gNil, gSub, gName, Mk.rSetD, List.set_cons_zero, List.set_cons_succ, Bool.false_eq_true, List.cons.injEq, Bool.not_true, Bool.not_false, eq_self, decide_true, decide_false, c3, star_is, nil_is, c1, decide_false]
        simpa [c1] using q0
/-- a text that may stand as a place -/
def placeB (z : Str) : Bool := decide (z = "") || nameB z || newB z
def spIsPlace : Sp := fun vs H Q _ => ∃ z : Str, vs = [.str z] ∧ z.length ≤ 1000 ∧ placeB z = true ∧ ∀ H', Gx H H' → Q (.bl true) H'
theorem C_is_place (T : Tops mg) (D : Def K mg "is_place" s_is_place ["value"]) (C_is_name : Cal P w K mg base "is_name" 1 ["value"] spIsName) (C_is_new : Cal P w K mg base "is_new" 1 ["value"] spIsNew) : Cal P w K mg base "is_place" 2 ["value"] spIsPlace := by
  refine Cal.of D sc_is_place (fun vs H Q E h => ?_) (fun f cdv A outer s H vs Q E hr h => ?_)
  · obtain ⟨i, rfl, _⟩ := h; rfl
  · obtain ⟨z, rfl, hl, hp, q⟩ := h
    have hu := hu_of hr
    have h0 := hr.units0
    refine ⟨_, (pss_one (ps_ret (pe_and (pe_callB (call_isA' (P := P) (w := w) (K := K) rfl rfl rfl) (by rfl) T.b_isinstance (by decide +kernel) (pa_cons (pv 0) (pa_cons (pe_bltn (v := .ty "str") (u := .type "str") (by rfl) T.b_str (by decide +kernel) rfl) pa_nil))) (pe_one (pe_or (pe_cmpR op_eq (pv 0) (pe_const T.c_ZERO (by rfl)) (nomark _)) (pe_or (pe_cal C_is_name hr (by decide) (by rfl) (pa_cons (pv 0) pa_nil)) (pe_one (pe_cal C_is_new hr (by decide) (by rfl) (pa_cons (pv 0) pa_nil))))))))), ?_⟩
    simp only [cxOf, Cx.nox, L2.start, tRet, tAndV, tOrV, tNotV, tCB, tCons, tNil, tVar, tC, tOp, tUn, tChain, tIfS, tTest, tSeq, tNext, tB, tOr, tAnd, tNot, tAsg, tDrop, tCall, rI0, rI, rU, List.cons_append, List.nil_append, List.append_nil, List.map_cons, List.map_nil, List.length_cons, List.length_nil, Nat.reduceAdd, Nat.reduceSub, List.replicate_succ, List.replicate_zero, List.getElem?_cons_zero, List.getElem?_cons_succ, Option.some.injEq, exists_eq_left, exists_eq_left', exists_eq_right, V.int.injEq, V.bl.injEq, V.str.injEq, V.ref.injEq, true_and, and_true, exists_and_left, if_true, if_false, gTup, gCons, gNil, gSub, gName, Mk.rSetD, List.set_cons_zero, List.set_cons_succ, Bool.false_eq_true, List.cons.injEq, Bool.not_true, Bool.not_false, eq_self, decide_true, decide_false, c3, N_is_place]
    refine isA (.str z) rfl ?_
    simp only [cxOf, Cx.nox, L2.start, tRet, tAndV, tOrV, tNotV, tCB, tCons, tNil, tVar, tC, tOp, tUn, tChain, tIfS, tTest, tSeq, tNext, tB, tOr, tAnd, tNot, tAsg, tDrop, tCall, rI0, rI, rU, List.cons_append, List.nil_append, List.append_nil, List.map_cons, List.map_nil, List.length_cons, List.length_nil, Nat.reduceAdd, Nat.reduceSub, List.replicate_succ, List.replicate_zero, List.getElem?_cons_zero, List.getElem?_cons_succ, Option.some.injEq, exists_eq_left, exists_eq_left', exists_eq_right, V.int.injEq, V.bl.injEq, V.str.injEq, V.ref.injEq, true_and, and_true, exists_and_left, if_true, if_false, gTup, gCons, gNil, gSub, gName, Mk.rSetD, List.set_cons_zero, List.set_cons_succ, Bool.false_eq_true, List.cons.injEq, Bool.not_true, Bool.not_false, eq_self, decide_true, decide_false, c3]
    refine ⟨rfl, ?_⟩
    by_cases e1 : z = ""
    · simp only [cxOf, Cx.nox, L2.start, tRet, tAndV, tOrV, tNotV, tCB, tCons, tNil, tVar, tC, tOp, tUn, tChain, tIfS, tTest, tSeq, tNext, tB, tOr, tAnd, tNot, tAsg, tDrop, tCall, rI0, rI, rU, List.cons_append, List.nil_append, List.append_nil, List.map_cons, List.map_nil, List.length_cons, List.length_nil, Nat.reduceAdd, Nat.reduceSub, List.replicate_succ, List.replicate_zero, List.getElem?_cons_zero, List.getElem?_cons_succ, Option.some.injEq, exists_eq_left, exists_eq_left', exists_eq_right, V.int.injEq, V.bl.injEq, V.str.injEq, V.ref.injEq, true_and, and_true, exists_and_left, if_true, if_false, gTup, gCons, gNil, gSub, gName, Mk.rSetD, List.set_cons_zero, List.set_cons_succ, Bool.false_eq_true, List.cons.injEq, Bool.not_true, Bool.not_false, eq_self, decide_true, decide_false, c3, e1, decide_true]
      exact q _ .refl
    · simp only [cxOf, Cx.nox, L2.start, tRet, tAndV, tOrV, tNotV, tCB, tCons, tNil, tVar, tC, tOp, tUn, tChain, tIfS, tTest, tSeq, tNext, tB, tOr, tAnd, tNot, tAsg, tDrop, tCall, rI0, rI, rU, List.cons_append, List.nil_append, List.append_nil, List.map_cons, List.map_nil, List.length_cons, List.length_nil, Nat.reduceAdd, Nat.reduceSub, List.replicate_succ, List.replicate_zero, List.getElem?_cons_zero, List.getElem?_cons_succ, Option.some.injEq, exists_eq_left, exists_eq_left', exists_eq_right, V.int.injEq, V.bl.injEq, V.str.injEq, V.ref.injEq, true_and, and_true, exists_and_left, if_true, if_false, gTup, gCons, gNil, gSub, gName, Mk.rSetD, List.set_cons_zero, List.set_cons_succ, Bool.false_eq_true, List.cons.injEq, Bool.not_true, Bool.not_false, eq_self, decide_true, decide_false, c3, e1, decide_false]
      refine ⟨z, rfl, hl, fun H1 g1 => ?_⟩
      by_cases e2 : nameB z = true
      · simp only [cxOf, Cx.nox, L2.start, tRet, tAndV, tOrV, tNotV, tCB, tCons, tNil, tVar, tC, tOp, tUn, tChain, tIfS, tTest, tSeq, tNext, tB, tOr, tAnd, tNot, tAsg, tDrop, tCall, rI0, rI, rU, List.cons_append, List.nil_append, List.append_nil, List.map_cons, List.map_nil, List.length_cons, List.length_nil, Nat.reduceAdd, Nat.reduceSub, List.replicate_succ, List.replicate_zero, List.getElem?_cons_zero, List.getElem?_cons_succ, Option.some.injEq, exists_eq_left, exists_eq_left', exists_eq_right, V.int.injEq, V.bl.injEq, V.str.injEq, V.ref.injEq, true_and, and_true, exists_and_left, if_true, if_false, gTup, gCons, gNil, gSub, gName, Mk.rSetD, List.set_cons_zero, List.set_cons_succ, Bool.false_eq_true, List.cons.injEq, Bool.not_true, Bool.not_false, eq_self, decide_true, decide_false, c3, e2]
        exact q _ g1
      · rw [Bool.not_eq_true] at e2
        simp only [cxOf, Cx.nox, L2.start, tRet, tAndV, tOrV, tNotV, tCB, tCons, tNil, tVar, tC, tOp, tUn, tChain, tIfS, tTest, tSeq, tNext, tB, tOr, tAnd, tNot, tAsg, tDrop, tCall, rI0, rI, rU, List.cons_append, List.nil_append, List.append_nil, List.map_cons, List.map_nil, List.length_cons, List.length_nil, Nat.reduceAdd, Nat.reduceSub, List.replicate_succ, List.replicate_zero, List.getElem?_cons_zero, List.getElem?_cons_succ, Option.some.injEq, exists_eq_left, exists_eq_left', exists_eq_right, V.int.injEq, V.bl.injEq, V.str.injEq, V.ref.injEq, true_and, and_true, exists_and_left, if_true, if_false, gTup, gCons, gNil, gSub, gName, Mk.rSetD, List.set_cons_zero, List.set_cons_succ, Bool.false_eq_true, List.cons.injEq, Bool.not_true, Bool.not_false, eq_self, decide_true, decide_false, c3, e2]
        refine ⟨z, rfl, hl, fun H2 g2 => ?_⟩
        rw [placeB, decide_eq_false e1, e2] at hp
        rw [show newB z = true by simpa using hp]
        exact q _ (g1.trans g2)
/-- a point -/
def GoodP : PK → Prop
  | .inl (.inr z) => z.length ≤ 1000 ∧ placeB z = true
  | .inr [.inr a, .inr b, .inl c] => a.length ≤ 1000 ∧ nameB a = true ∧ b.length ≤ 1000 ∧ placeB b = true ∧ -(10 ^ 60) < c ∧ c < 10 ^ 60
  | _ => False
theorem GoodP.cases {k : PK} (h : GoodP k) : (∃ z, k = .inl (.inr z) ∧ z.length ≤ 1000 ∧ placeB z = true) ∨
    ∃ a b c, k = .inr [.inr a, .inr b, .inl c] ∧ a.length ≤ 1000 ∧ nameB a = true ∧ b.length ≤ 1000 ∧ placeB b = true ∧ -(10 ^ 60) < c ∧ c < 10 ^ 60 := by
  unfold GoodP at h
  split at h
  · exact .inl ⟨_, rfl, h⟩
  · exact .inr ⟨_, _, _, rfl, h⟩
  · exact h.elim
def spIsPoint (K : PySem.W.Frag) : Sp := fun vs H Q _ => ∃ v k, vs = [v] ∧ KyV K H k v ∧ GoodP k ∧ ∀ H', Gx H H' → Q (.bl true) H'
theorem C_is_point (T : Tops mg) (D : Def K mg "is_point" s_is_point ["value"]) (C_is_integer : Cal P w K mg base "is_integer" 1 ["value"] spIsInt) (C_is_name : Cal P w K mg base "is_name" 1 ["value"] spIsName) (C_is_place : Cal P w K mg base "is_place" 2 ["value"] spIsPlace) : Cal P w K mg base "is_point" 3 ["value"] (spIsPoint K) := by
  refine Cal.of D sc_is_point (fun vs H Q E h => ?_) (fun f cdv A outer s H vs Q E hr h => ?_)
  · obtain ⟨i, k, rfl, _⟩ := h; rfl
  · obtain ⟨v, k, rfl, hk, hg, q⟩ := h
    have hu := hu_of hr
    have h0 := hr.units0
    refine ⟨_, (pss_cons (ps_if (pt_not (pt_val (pe_callB (call_isA' (P := P) (w := w) (K := K) rfl rfl rfl) (by rfl) T.b_isinstance (by decide +kernel) (pa_cons (pv 0) (pa_cons (pe_bltn (v := .ty "tuple") (u := .type "tuple") (by rfl) T.b_tuple (by decide +kernel) rfl) pa_nil))))) (pss_one (ps_ret (pe_cal C_is_place hr (by decide) (by rfl) (pa_cons (pv 0) pa_nil)))) pss_nil)
      (pss_one (ps_ret (pe_and (pe_cmpR op_eq (pe_callB call_len_seq (by rfl) T.b_len (by decide +kernel) (pa_cons (pv 0) pa_nil)) pe_int (nomark _)) (pe_and (pe_cal C_is_name hr (by decide) (by rfl) (pa_cons (pe_ix (ix_tup' (K := K) rfl) (pv 0) pe_int (fun _ _ => rfl)) pa_nil)) (pe_and (pe_cal C_is_place hr (by decide) (by rfl) (pa_cons (pe_ix (ix_tup' (K := K) rfl) (pv 0) pe_int (fun _ _ => rfl)) pa_nil)) (pe_one (pe_cal C_is_integer hr (by decide) (by rfl) (pa_cons (pe_ix (ix_tup' (K := K) rfl) (pv 0) pe_int (fun _ _ => rfl)) pa_nil))))))))), ?_⟩
    simp only [cxOf, Cx.nox, L2.start, tRet, tAndV, tOrV, tNotV, tCB, tCons, tNil, tVar, tC, tOp, tUn, tChain, tIfS, tTest, tSeq, tNext, tB, tOr, tAnd, tNot, tAsg, tDrop, tCall, rI0, rI, rU, List.cons_append, List.nil_append, List.append_nil, List.map_cons, List.map_nil, List.length_cons, List.length_nil, Nat.reduceAdd, Nat.reduceSub, List.replicate_succ, List.replicate_zero, List.getElem?_cons_zero, List.getElem?_cons_succ, Option.some.injEq, exists_eq_left, exists_eq_left', exists_eq_right, V.int.injEq, V.bl.injEq, V.str.injEq, V.ref.injEq, true_and, and_true, exists_and_left, if_true, if_false, gTup, gCons, gNil, gSub, gName, Mk.rSetD, List.set_cons_zero, List.set_cons_succ, Bool.false_eq_true, List.cons.injEq, Bool.not_true, Bool.not_false, eq_self, decide_true, decide_false, c3, N_is_point]
    rcases hg.cases with ⟨z, rfl, h1, h2⟩ | ⟨a, b, c, rfl, h1, h2, h3, h4, h5, h6⟩
    · obtain rfl : v = .str z := hk
      refine isA (.str z) rfl ?_
      simp only [cxOf, Cx.nox, L2.start, tRet, tAndV, tOrV, tNotV, tCB, tCons, tNil, tVar, tC, tOp, tUn, tChain, tIfS, tTest, tSeq, tNext, tB, tOr, tAnd, tNot, tAsg, tDrop, tCall, rI0, rI, rU, List.cons_append, List.nil_append, List.append_nil, List.map_cons, List.map_nil, List.length_cons, List.length_nil, Nat.reduceAdd, Nat.reduceSub, List.replicate_succ, List.replicate_zero, List.getElem?_cons_zero, List.getElem?_cons_succ, Option.some.injEq, exists_eq_left, exists_eq_left', exists_eq_right, V.int.injEq, V.bl.injEq, V.str.injEq, V.ref.injEq, true_and, and_true, exists_and_left, if_true, if_false, gTup, gCons, gNil, gSub, gName, Mk.rSetD, List.set_cons_zero, List.set_cons_succ, Bool.false_eq_true, List.cons.injEq, Bool.not_true, Bool.not_false, eq_self, decide_true, decide_false, c3]
      exact ⟨z, rfl, h1, h2, q⟩
    · obtain ⟨p, rfl, hS⟩ := hk
      refine isA (.tup hS) rfl ?_
      simp only [cxOf, Cx.nox, L2.start, tRet, tAndV, tOrV, tNotV, tCB, tCons, tNil, tVar, tC, tOp, tUn, tChain, tIfS, tTest, tSeq, tNext, tB, tOr, tAnd, tNot, tAsg, tDrop, tCall, rI0, rI, rU, List.cons_append, List.nil_append, List.append_nil, List.map_cons, List.map_nil, List.length_cons, List.length_nil, Nat.reduceAdd, Nat.reduceSub, List.replicate_succ, List.replicate_zero, List.getElem?_cons_zero, List.getElem?_cons_succ, Option.some.injEq, exists_eq_left, exists_eq_left', exists_eq_right, V.int.injEq, V.bl.injEq, V.str.injEq, V.ref.injEq, true_and, and_true, exists_and_left, if_true, if_false, gTup, gCons, gNil, gSub, gName, Mk.rSetD, List.set_cons_zero, List.set_cons_succ, Bool.false_eq_true, List.cons.injEq, Bool.not_true, Bool.not_false, eq_self, decide_true, decide_false, c3]
      refine ⟨_, .inr hS, rfl, ?_⟩
      simp only [cxOf, Cx.nox, L2.start, tRet, tAndV, tOrV, tNotV, tCB, tCons, tNil, tVar, tC, tOp, tUn, tChain, tIfS, tTest, tSeq, tNext, tB, tOr, tAnd, tNot, tAsg, tDrop, tCall, rI0, rI, rU, List.cons_append, List.nil_append, List.append_nil, List.map_cons, List.map_nil, List.length_cons, List.length_nil, Nat.reduceAdd, Nat.reduceSub, List.replicate_succ, List.replicate_zero, List.getElem?_cons_zero, List.getElem?_cons_succ, Option.some.injEq, exists_eq_left, exists_eq_left', exists_eq_right, V.int.injEq, V.bl.injEq, V.str.injEq, V.ref.injEq, true_and, and_true, exists_and_left, if_true, if_false, gTup, gCons, gNil, gSub, gName, Mk.rSetD, List.set_cons_zero, List.set_cons_succ, Bool.false_eq_true, List.cons.injEq, Bool.not_true, Bool.not_false, eq_self, decide_true, decide_false, c3]
      refine ⟨p, _, 0, _, rfl, rfl, hS, atI_nat (j := 0) rfl, a, rfl, h1, fun H1 g1 => ?_⟩
      simp only [cxOf, Cx.nox, L2.start, tRet, tAndV, tOrV, tNotV, tCB, tCons, tNil, tVar, tC, tOp, tUn, tChain, tIfS, tTest, tSeq, tNext, tB, tOr, tAnd, tNot, tAsg, tDrop, tCall, rI0, rI, rU, List.cons_append, List.nil_append, List.append_nil, List.map_cons, List.map_nil, List.length_cons, List.length_nil, Nat.reduceAdd, Nat.reduceSub, List.replicate_succ, List.replicate_zero, List.getElem?_cons_zero, List.getElem?_cons_succ, Option.some.injEq, exists_eq_left, exists_eq_left', exists_eq_right, V.int.injEq, V.bl.injEq, V.str.injEq, V.ref.injEq, true_and, and_true, exists_and_left, if_true, if_false, gTup, gCons, gNil, gSub, gName, Mk.rSetD, List.set_cons_zero, List.set_cons_succ, Bool.false_eq_true, List.cons.injEq, Bool.not_true, Bool.not_false, eq_self, decide_true, decide_false, c3, h2]
      refine ⟨p, _, 1, _, rfl, rfl, g1.seqT hS, atI_nat (j := 1) rfl, b, rfl, h3, h4, fun H2 g2 => ?_⟩
      simp only [cxOf, Cx.nox, L2.start, tRet, tAndV, tOrV, tNotV, tCB, tCons, tNil, tVar, tC, tOp, tUn, tChain, tIfS, tTest, tSeq, tNext, tB, tOr, tAnd, tNot, tAsg, tDrop, tCall, rI0, rI, rU, List.cons_append, List.nil_append, List.append_nil, List.map_cons, List.map_nil, List.length_cons, List.length_nil, Nat.reduceAdd, Nat.reduceSub, List.replicate_succ, List.replicate_zero, List.getElem?_cons_zero, List.getElem?_cons_succ, Option.some.injEq, exists_eq_left, exists_eq_left', exists_eq_right, V.int.injEq, V.bl.injEq, V.str.injEq, V.ref.injEq, true_and, and_true, exists_and_left, if_true, if_false, gTup, gCons, gNil, gSub, gName, Mk.rSetD, List.set_cons_zero, List.set_cons_succ, Bool.false_eq_true, List.cons.injEq, Bool.not_true, Bool.not_false, eq_self, decide_true, decide_false, c3]
      refine ⟨p, _, 2, _, rfl, rfl, g2.seqT (g1.seqT hS), atI_nat (j := 2) rfl, c, rfl, h5, h6, q _ (g1.trans g2)⟩
/-- a difference: two points and a number -/
abbrev Dif := PK × PK × Int
def DifV (K : PySem.W.Frag) (H : Hp) (d : Dif) (v : V) : Prop := ∃ a x y, v = .ref a ∧ SqT K H a [x, y, .int d.2.2] ∧ KyV K H d.1 x ∧ KyV K H d.2.1 y
def GoodD (d : Dif) : Prop := GoodP d.1 ∧ GoodP d.2.1 ∧ -(10 ^ 60) < d.2.2 ∧ d.2.2 < 10 ^ 60
theorem DifV.keep {H H' : Hp} {d : Dif} {v : V} (h : DifV K H d v) (t : Tk K H H') : DifV K H' d v :=
  let ⟨a, x, y, e, s, p, q⟩ := h
  ⟨a, x, y, e, t _ _ s, p.keep t, q.keep t⟩
def spIsDif (K : PySem.W.Frag) : Sp := fun vs H Q _ => ∃ v d, vs = [v] ∧ DifV K H d v ∧ GoodD d ∧ ∀ H', Gx H H' → Q (.bl true) H'
theorem C_is_difference (T : Tops mg) (D : Def K mg "is_difference" s_is_difference ["value"]) (C_is_integer : Cal P w K mg base "is_integer" 1 ["value"] spIsInt) (C_is_point : Cal P w K mg base "is_point" 3 ["value"] (spIsPoint K)) : Cal P w K mg base "is_difference" 4 ["value"] (spIsDif K) := by
  refine Cal.of D sc_is_difference (fun vs H Q E h => ?_) (fun f cdv A outer s H vs Q E hr h => ?_)
  · obtain ⟨i, k, rfl, _⟩ := h; rfl
  · obtain ⟨v, d, rfl, ⟨p, x, y, rfl, hS, hx, hy⟩, ⟨g1, g2, g3, g4⟩, q⟩ := h
    have hu := hu_of hr
    have h0 := hr.units0
    refine ⟨_, (pss_cons (ps_if (PW.pt (pw_or (pt_not (pt_val (pe_callB (call_isA' (P := P) (w := w) (K := K) rfl rfl rfl) (by rfl) T.b_isinstance (by decide +kernel) (pa_cons (pv 0) (pa_cons (pe_bltn (v := .ty "tuple") (u := .type "tuple") (by rfl) T.b_tuple (by decide +kernel) rfl) pa_nil))))) (pw_or1 (pt_cmpR op_ne (pe_callB call_len_seq (by rfl) T.b_len (by decide +kernel) (pa_cons (pv 0) pa_nil)) pe_int (nomark _))))) (pss_one (ps_ret pe_bl)) pss_nil)
      (pss_one (ps_ret (pe_and (pe_cal C_is_point hr (by decide) (by rfl) (pa_cons (pe_ix (ix_tup' (K := K) rfl) (pv 0) pe_int (fun _ _ => rfl)) pa_nil)) (pe_and (pe_cal C_is_point hr (by decide) (by rfl) (pa_cons (pe_ix (ix_tup' (K := K) rfl) (pv 0) pe_int (fun _ _ => rfl)) pa_nil)) (pe_one (pe_cal C_is_integer hr (by decide) (by rfl) (pa_cons (pe_ix (ix_tup' (K := K) rfl) (pv 0) pe_int (fun _ _ => rfl)) pa_nil)))))))), ?_⟩
    simp only [cxOf, Cx.nox, L2.start, tRet, tAndV, tOrV, tNotV, tCB, tCons, tNil, tVar, tC, tOp, tUn, tChain, tIfS, tTest, tSeq, tNext, tB, tOr, tAnd, tNot, tAsg, tDrop, tCall, rI0, rI, rU, List.cons_append, List.nil_append, List.append_nil, List.map_cons, List.map_nil, List.length_cons, List.length_nil, Nat.reduceAdd, Nat.reduceSub, List.replicate_succ, List.replicate_zero, List.getElem?_cons_zero, List.getElem?_cons_succ, Option.some.injEq, exists_eq_left, exists_eq_left', exists_eq_right, V.int.injEq, V.bl.injEq, V.str.injEq, V.ref.injEq, true_and, and_true, exists_and_left, if_true, if_false, gTup, gCons, gNil, gSub, gName, Mk.rSetD, List.set_cons_zero, List.set_cons_succ, Bool.false_eq_true, List.cons.injEq, Bool.not_true, Bool.not_false, eq_self, decide_true, decide_false, c3, N_is_difference]
    refine isA (.tup hS) rfl ?_
    simp only [cxOf, Cx.nox, L2.start, tRet, tAndV, tOrV, tNotV, tCB, tCons, tNil, tVar, tC, tOp, tUn, tChain, tIfS, tTest, tSeq, tNext, tB, tOr, tAnd, tNot, tAsg, tDrop, tCall, rI0, rI, rU, List.cons_append, List.nil_append, List.append_nil, List.map_cons, List.map_nil, List.length_cons, List.length_nil, Nat.reduceAdd, Nat.reduceSub, List.replicate_succ, List.replicate_zero, List.getElem?_cons_zero, List.getElem?_cons_succ, Option.some.injEq, exists_eq_left, exists_eq_left', exists_eq_right, V.int.injEq, V.bl.injEq, V.str.injEq, V.ref.injEq, true_and, and_true, exists_and_left, if_true, if_false, gTup, gCons, gNil, gSub, gName, Mk.rSetD, List.set_cons_zero, List.set_cons_succ, Bool.false_eq_true, List.cons.injEq, Bool.not_true, Bool.not_false, eq_self, decide_true, decide_false, c3]
    refine ⟨_, .inr hS, rfl, ?_⟩
    simp only [cxOf, Cx.nox, L2.start, tRet, tAndV, tOrV, tNotV, tCB, tCons, tNil, tVar, tC, tOp, tUn, tChain, tIfS, tTest, tSeq, tNext, tB, tOr, tAnd, tNot, tAsg, tDrop, tCall, rI0, rI, rU, List.cons_append, List.nil_append, List.append_nil, List.map_cons, List.map_nil, List.length_cons, List.length_nil, Nat.reduceAdd, Nat.reduceSub, List.replicate_succ, List.replicate_zero, List.getElem?_cons_zero, List.getElem?_cons_succ, Option.some.injEq, exists_eq_left, exists_eq_left', exists_eq_right, V.int.injEq, V.bl.injEq, V.str.injEq, V.ref.injEq, true_and, and_true, exists_and_left, if_true, if_false, gTup, gCons, gNil, gSub, gName, Mk.rSetD, List.set_cons_zero, List.set_cons_succ, Bool.false_eq_true, List.cons.injEq, Bool.not_true, Bool.not_false, eq_self, decide_true, decide_false, c3]
    refine ⟨p, _, 0, _, rfl, rfl, hS, atI_nat (j := 0) rfl, x, _, rfl, hx, g1, fun H1 e1 => ?_⟩
    simp only [cxOf, Cx.nox, L2.start, tRet, tAndV, tOrV, tNotV, tCB, tCons, tNil, tVar, tC, tOp, tUn, tChain, tIfS, tTest, tSeq, tNext, tB, tOr, tAnd, tNot, tAsg, tDrop, tCall, rI0, rI, rU, List.cons_append, List.nil_append, List.append_nil, List.map_cons, List.map_nil, List.length_cons, List.length_nil, Nat.reduceAdd, Nat.reduceSub, List.replicate_succ, List.replicate_zero, List.getElem?_cons_zero, List.getElem?_cons_succ, Option.some.injEq, exists_eq_left, exists_eq_left', exists_eq_right, V.int.injEq, V.bl.injEq, V.str.injEq, V.ref.injEq, true_and, and_true, exists_and_left, if_true, if_false, gTup, gCons, gNil, gSub, gName, Mk.rSetD, List.set_cons_zero, List.set_cons_succ, Bool.false_eq_true, List.cons.injEq, Bool.not_true, Bool.not_false, eq_self, decide_true, decide_false, c3]
    refine ⟨p, _, 1, _, rfl, rfl, e1.seqT hS, atI_nat (j := 1) rfl, y, _, rfl, hy.keep e1.tk, g2, fun H2 e2 => ?_⟩
    simp only [cxOf, Cx.nox, L2.start, tRet, tAndV, tOrV, tNotV, tCB, tCons, tNil, tVar, tC, tOp, tUn, tChain, tIfS, tTest, tSeq, tNext, tB, tOr, tAnd, tNot, tAsg, tDrop, tCall, rI0, rI, rU, List.cons_append, List.nil_append, List.append_nil, List.map_cons, List.map_nil, List.length_cons, List.length_nil, Nat.reduceAdd, Nat.reduceSub, List.replicate_succ, List.replicate_zero, List.getElem?_cons_zero, List.getElem?_cons_succ, Option.some.injEq, exists_eq_left, exists_eq_left', exists_eq_right, V.int.injEq, V.bl.injEq, V.str.injEq, V.ref.injEq, true_and, and_true, exists_and_left, if_true, if_false, gTup, gCons, gNil, gSub, gName, Mk.rSetD, List.set_cons_zero, List.set_cons_succ, Bool.false_eq_true, List.cons.injEq, Bool.not_true, Bool.not_false, eq_self, decide_true, decide_false, c3]
    refine ⟨p, _, 2, _, rfl, rfl, e2.seqT (e1.seqT hS), atI_nat (j := 2) rfl, _, rfl, g3, g4, q _ (e1.trans e2)⟩
/-- a tuple of differences -/
def DsV (K : PySem.W.Frag) (H : Hp) (ds : List Dif) (v : V) : Prop := ∃ a vs, v = .ref a ∧ SqT K H a vs ∧ Paired (DifV K H) ds vs
theorem DsV.keep {H H' : Hp} {ds : List Dif} {v : V} (h : DsV K H ds v) (t : Tk K H H') : DsV K H' ds v :=
  let ⟨a, vs, e, s, p⟩ := h
  ⟨a, vs, e, t _ _ s, Paired.mapP p fun _ _ h => h.keep t⟩
def GoodDs (ds : List Dif) : Prop := ds.length ≤ 60 ∧ ∀ d ∈ ds, GoodD d
def spReqD (K : PySem.W.Frag) : Sp := fun vs H Q _ => ∃ v ds, vs = [v] ∧ DsV K H ds v ∧ GoodDs ds ∧ ∀ H', Gx H H' → Q .non H'
theorem C_require_differences (T : Tops mg) (D : Def K mg "require_differences" s_require_differences ["value"]) (C_is_difference : Cal P w K mg base "is_difference" 4 ["value"] (spIsDif K)) : Cal P w K mg base "require_differences" 5 ["value"] (spReqD K) := by
  refine Cal.of D sc_require_differences (fun vs H Q E h => ?_) (fun f cdv A outer s H vs Q E hr h => ?_)
  · obtain ⟨i, k, rfl, _⟩ := h; rfl
  · obtain ⟨v, ds, rfl, ⟨p, vs, rfl, hS, hv⟩, ⟨hl, hg⟩, q⟩ := h
    have hu := hu_of hr
    have h0 := hr.units0
    refine ⟨_, (pss_one (ps_if (PW.pt (pw_or (pt_not (pt_val (pe_callB (call_isA' (P := P) (w := w) (K := K) rfl rfl rfl) (by rfl) T.b_isinstance (by decide +kernel) (pa_cons (pv 0) (pa_cons (pe_bltn (v := .ty "tuple") (u := .type "tuple") (by rfl) T.b_tuple (by decide +kernel) rfl) pa_nil))))) (pw_or (pt_cmpR op_gt (pe_callB call_len_seq (by rfl) T.b_len (by decide +kernel) (pa_cons (pv 0) pa_nil)) (pe_const T.c_MAX_DIFFERENCES (by rfl)) (nomark _)) (pw_or1 (pt_not (pt_val (pe_callB (cr_all rfl) (by rfl) T.b_all (by decide +kernel) (pa_cons (pe_lc (own := [("row", 1)]) rfl sc_require_differences.nd (pi_tup (pv 0)) (blkOk_by (own := [("row", 1)]) (N := N_require_differences) (sc := defScope s_require_differences) (by decide +kernel)) (fun _ _ _ _ _ => (pg_name (i := 1) sc_require_differences.nd rfl (Or.inl rfl))) (fun _ _ _ _ _ => pts_nil) (fun _ _ _ _ _ => (pe_cal C_is_difference hr (by decide) (by rfl) (pa_cons (pv 1) pa_nil)))) pa_nil)))))))) (pss_one ps_never) pss_nil)), ?_⟩
    simp only [cxOf, Cx.nox, L2.start, tRet, tAndV, tOrV, tNotV, tCB, tCons, tNil, tVar, tC, tOp, tUn, tChain, tIfS, tTest, tSeq, tNext, tB, tOr, tAnd, tNot, tAsg, tDrop, tCall, rI0, rI, rU, List.cons_append, List.nil_append, List.append_nil, List.map_cons, List.map_nil, List.length_cons, List.length_nil, Nat.reduceAdd, Nat.reduceSub, List.replicate_succ, List.replicate_zero, List.getElem?_cons_zero, List.getElem?_cons_succ, Option.some.injEq, exists_eq_left, exists_eq_left', exists_eq_right, V.int.injEq, V.bl.injEq, V.str.injEq, V.ref.injEq, true_and, and_true, exists_and_left, if_true, if_false, gTup, gCons, gNil, gSub, gName, Mk.rSetD, List.set_cons_zero, List.set_cons_succ, Bool.false_eq_true, List.cons.injEq, Bool.not_true, Bool.not_false, eq_self, decide_true, decide_false, c3, N_require_differences]
    refine isA (.tup hS) rfl ?_
    simp only [cxOf, Cx.nox, L2.start, tRet, tAndV, tOrV, tNotV, tCB, tCons, tNil, tVar, tC, tOp, tUn, tChain, tIfS, tTest, tSeq, tNext, tB, tOr, tAnd, tNot, tAsg, tDrop, tCall, rI0, rI, rU, List.cons_append, List.nil_append, List.append_nil, List.map_cons, List.map_nil, List.length_cons, List.length_nil, Nat.reduceAdd, Nat.reduceSub, List.replicate_succ, List.replicate_zero, List.getElem?_cons_zero, List.getElem?_cons_succ, Option.some.injEq, exists_eq_left, exists_eq_left', exists_eq_right, V.int.injEq, V.bl.injEq, V.str.injEq, V.ref.injEq, true_and, and_true, exists_and_left, if_true, if_false, gTup, gCons, gNil, gSub, gName, Mk.rSetD, List.set_cons_zero, List.set_cons_succ, Bool.false_eq_true, List.cons.injEq, Bool.not_true, Bool.not_false, eq_self, decide_true, decide_false, c3]
    have hl' : vs.length ≤ 60 := by rw [← Paired.length hv]; exact hl
    have b1 : ¬ (60 : Int) < vs.length := by omega
    refine ⟨vs, .inr hS, ?_⟩
    simp only [cxOf, Cx.nox, L2.start, tRet, tAndV, tOrV, tNotV, tCB, tCons, tNil, tVar, tC, tOp, tUn, tChain, tIfS, tTest, tSeq, tNext, tB, tOr, tAnd, tNot, tAsg, tDrop, tCall, rI0, rI, rU, List.cons_append, List.nil_append, List.append_nil, List.map_cons, List.map_nil, List.length_cons, List.length_nil, Nat.reduceAdd, Nat.reduceSub, List.replicate_succ, List.replicate_zero, List.getElem?_cons_zero, List.getElem?_cons_succ, Option.some.injEq, exists_eq_left, exists_eq_left', exists_eq_right, V.int.injEq, V.bl.injEq, V.str.injEq, V.ref.injEq, true_and, and_true, exists_and_left, if_true, if_false, gTup, gCons, gNil, gSub, gName, Mk.rSetD, List.set_cons_zero, List.set_cons_succ, Bool.false_eq_true, List.cons.injEq, Bool.not_true, Bool.not_false, eq_self, decide_true, decide_false, c3, b1]
    refine ⟨_, rfl, p, rfl, ⟨_, hS⟩, fun D hD => lc_it walk_tup (PvG H D (AMap vs fun _ => V.bl true)) (PvG.ini hD .ini) (fun _ _ _ h => h.1.seqT hS) (fun i x H1 H2 hi hP hY => ?_) (fun H1 hP => ?_)⟩
    · obtain ⟨rfl, hx⟩ := hY
      obtain ⟨g, ys, e, a⟩ := hP
      obtain ⟨d, hd, hdx⟩ := pair_at hv hx
      simp only [cxOf, Cx.nox, L2.start, tRet, tAndV, tOrV, tNotV, tCB, tCons, tNil, tVar, tC, tOp, tUn, tChain, tIfS, tTest, tSeq, tNext, tB, tOr, tAnd, tNot, tAsg, tDrop, tCall, rI0, rI, rU, List.cons_append, List.nil_append, List.append_nil, List.map_cons, List.map_nil, List.length_cons, List.length_nil, Nat.reduceAdd, Nat.reduceSub, List.replicate_succ, List.replicate_zero, List.getElem?_cons_zero, List.getElem?_cons_succ, Option.some.injEq, exists_eq_left, exists_eq_left', exists_eq_right, V.int.injEq, V.bl.injEq, V.str.injEq, V.ref.injEq, true_and, and_true, exists_and_left, if_true, if_false, gTup, gCons, gNil, gSub, gName, Mk.rSetD, List.set_cons_zero, List.set_cons_succ, Bool.false_eq_true, List.cons.injEq, Bool.not_true, Bool.not_false, eq_self, decide_true, decide_false, c3, gName, tYes]
      exact ⟨rfl, _, rfl, _, _, rfl, hdx.keep g.tk, hg d (List.mem_of_getElem? hd), fun H3 g3 => PvG.put (g.trans g3) hD (g3 _ _ e) (line_lt (a.len hl')) (a.put hx)⟩
    · obtain ⟨g, ys, e, a⟩ := hP
      refine ⟨D, vs.map fun _ => true, rfl, .inl (.inl (by rw [e, a.fin, List.map_map]; rfl)), ?_⟩
      rw [all_bl, show (vs.all fun _ => true) = true by simp]
      simp only [cxOf, Cx.nox, L2.start, tRet, tAndV, tOrV, tNotV, tCB, tCons, tNil, tVar, tC, tOp, tUn, tChain, tIfS, tTest, tSeq, tNext, tB, tOr, tAnd, tNot, tAsg, tDrop, tCall, rI0, rI, rU, List.cons_append, List.nil_append, List.append_nil, List.map_cons, List.map_nil, List.length_cons, List.length_nil, Nat.reduceAdd, Nat.reduceSub, List.replicate_succ, List.replicate_zero, List.getElem?_cons_zero, List.getElem?_cons_succ, Option.some.injEq, exists_eq_left, exists_eq_left', exists_eq_right, V.int.injEq, V.bl.injEq, V.str.injEq, V.ref.injEq, true_and, and_true, exists_and_left, if_true, if_false, gTup, gCons, gNil, gSub, gName, Mk.rSetD, List.set_cons_zero, List.set_cons_succ, Bool.false_eq_true, List.cons.injEq, Bool.not_true, Bool.not_false, eq_self, decide_true, decide_false, c3]
      exact q _ g
def spReqP (K : PySem.W.Frag) : Sp := fun vs H Q _ => ∃ v k, vs = [v] ∧ KyV K H k v ∧ GoodP k ∧ ∀ H', Gx H H' → Q .non H'
end
end Mk


set_option Elab.async false
set_option linter.all false
set_option maxRecDepth 100000
set_option maxHeartbeats 400000
/-! dicts of points: keys, comprehensions, sorted points -/
namespace Mk
open PySem PySem.Spec PyProof.Rows L2
/-! ### the keys of a dict that is stored to -/
section
variable {kvs : List (PK × V)} {k x : PK} {v : V}
theorem putK_has (h : k ∈ kvs.map (·.1)) : (putK kvs k v).map (·.1) = kvs.map (·.1) := by
  have e : (kvs.any fun kv => decide (kv.1 = k)) = true := by
    obtain ⟨p, hp, rfl⟩ := List.mem_map.mp h
    exact List.any_eq_true.mpr ⟨p, hp, by simp⟩
  rw [putK, if_pos e, List.map_map]
  refine List.map_congr_left fun p _ => ?_
  by_cases q : p.1 = k <;> simp [q]
theorem putK_new (h : k ∉ kvs.map (·.1)) : putK kvs k v = kvs ++ [(k, v)] := by
  have e : ¬ (kvs.any fun kv => decide (kv.1 = k)) = true := fun z => by
    obtain ⟨p, hp, q⟩ := List.any_eq_true.mp z
    exact h (List.mem_map.mpr ⟨p, hp, by simpa using q⟩)
  rw [putK, if_neg e]
theorem putK_mem : x ∈ (putK kvs k v).map (·.1) ↔ x = k ∨ x ∈ kvs.map (·.1) := by
  by_cases h : k ∈ kvs.map (·.1)
  · rw [putK_has h]
    exact ⟨.inr, fun z => z.elim (fun e => e ▸ h) id⟩
  · rw [putK_new h, List.map_append, List.mem_append, List.map_singleton, List.mem_singleton]
    exact Or.comm
theorem putK_nodup (h : (kvs.map (·.1)).Nodup) : ((putK kvs k v).map (·.1)).Nodup := by
  by_cases e : k ∈ kvs.map (·.1)
  · rw [putK_has e]; exact h
  · rw [putK_new e, List.map_append, List.map_singleton, List.nodup_append]
    exact ⟨h, by simp, fun a ha b hb => by rw [List.mem_singleton] at hb; subst hb; exact fun z => e (z ▸ ha)⟩
theorem putK_len : (putK kvs k v).length ≤ kvs.length + 1 := by
  by_cases e : k ∈ kvs.map (·.1)
  · have := congrArg List.length (putK_has (v := v) e)
    rw [List.length_map, List.length_map] at this
    omega
  · rw [putK_new e, List.length_append, List.length_singleton]; omega
end
section
variable {P : Program} {w : World} {K : PySem.W.Frag} {H H' H1 : Hp} {d : Addr}
theorem Gx.lock {u z : HO} (hd : H d = some u) (g : Gx (upd H d z) H') : Gx H (upd H' d u) := fun a o e => by
  by_cases q : a = d
  · subst q; rw [upd_same]; exact hd ▸ e
  · rw [upd_ne q]; exact g a o (by rw [upd_ne q]; exact e)
/-- a new list of points -/
def PLV (K : PySem.W.Frag) (H : Hp) (p : Addr) (ks : List PK) : Prop := ∃ xs, H p = some (.lst xs) ∧ Paired (KyV K H) ks xs
theorem PLV.keep {p : Addr} {ks : List PK} (h : PLV K H p ks) (e : H' p = H p) (t : Tk K H H') : PLV K H' p ks :=
  let ⟨xs, a, b⟩ := h
  ⟨xs, by rw [e]; exact a, Paired.mapP b fun _ _ q => q.keep t⟩
theorem PLV.gx {p : Addr} {ks : List PK} (h : PLV K H p ks) (g : Gx H H') : PLV K H' p ks :=
  let ⟨xs, a, b⟩ := h
  ⟨xs, g _ _ a, Paired.mapP b fun _ _ q => q.keep g.tk⟩
theorem pair_snoc {α β : Type} {R : α → β → Prop} {as : List α} {bs : List β} {a : α} {b : β} (h : Paired R as bs) (r : R a b) : Paired R (as ++ [a]) (bs ++ [b]) := Paired.snoc h r
/-- [x for x in d if isinstance(x, T)] -/
theorem filt_dic {T : String} (p : PK → Bool) (hp : ∀ k v H, KyV K H k v → ∃ t, TyA P w K H v t ∧ kitB t T = some (p k)) {σ : L2.St} {Q : VK} {kvs : List (PK × V)} {i j : Nat} (hij : i ≠ j) (hσ : σ[i]? = some (some (.ref d))) (hj : j < σ.length)
    (hd : DicW P w K H d kvs) (hl : kvs.length ≤ 1000) (q : ∀ H' r, Gx H H' → H r = none → PLV K H' r ((kvs.map (·.1)).filter p) → Q (.ref r) H') :
    tLockE (tLc (iDic P w K (tVar i)) (gName j) (tB (tCB (rIsA P w K) (tCons (tVar j) (tCons (tC (V.ty T)) tNil)))) (tVar j) [j]) σ H Q := by
  obtain ⟨xs, hx, pe⟩ := id hd
  refine ⟨d, _, hx, True.intro, fun od => ?_⟩
  refine ⟨_, hσ, d, od, xs, kvs, rfl, upd_same, pe.keep (Tk.mut hd.mut), fun D hD => ?_⟩
  have hne : D ≠ d := fun z => by rw [z, upd_same] at hD; cases hD
  refine lc_it walk_dic (PvG (upd H d (.frz od (.ext (rawD P w d xs)))) D fun n ys H' => Paired (KyV K H') (((kvs.take n).map (·.1)).filter p) ys) (PvG.ini hD (by rw [List.take_zero]; exact .nil))
    (fun _ H2 _ h => ⟨h.1 _ _ upd_same, (pe.keep (Tk.mut hd.mut)).keep h.1.tk⟩) (fun n x H1 H2 hn hP hY => ?_) (fun H1 hP => ?_)
  · obtain ⟨rfl, k, v, hk, ky⟩ := hY
    obtain ⟨g, ys, e, a⟩ := hP
    refine ⟨?_, ?_⟩
    · show wipe ((wipe σ [j]).set j (some x)) [j] = wipe σ [j]
      show ((σ.set j none).set j (some x)).set j none = σ.set j none
      rw [List.set_set, List.set_set]
    · obtain ⟨t, ht, kt⟩ := hp k x _ ky
      have gj : ((σ.set j none).set j (some x))[j]? = some (some x) := by rw [List.set_set, List.getElem?_set_self hj]
      refine ⟨x, gj, x, _, t, p k, rfl, ht, kt, p k, rfl, ?_⟩
      have tk : (kvs.take (n + 1)).map (·.1) = (kvs.take n).map (·.1) ++ [k] := by rw [take_s hk, List.map_append]; rfl
      by_cases c : p k = true
      · dsimp only; rw [if_pos c]
        refine ⟨x, gj, PvG.put g hD e ?_ ?_⟩
        · rw [← Paired.length a]
          refine line_lt (Nat.le_trans (List.length_filter_le _ _) ?_) (m := 1000)
          rw [List.length_map]; exact take_len hl
        · rw [tk, List.filter_append, List.filter_cons_of_pos c]
          exact pair_snoc (Paired.mapP a fun _ _ z => z.keep (Tk.mut (by rw [e]; exact True.intro))) (ky.keep (Tk.mut (by rw [e]; exact True.intro)))
      · dsimp only; rw [if_neg c]
        refine ⟨g, ys, e, ?_⟩
        dsimp only
        rw [tk, List.filter_append, List.filter_cons_of_neg c]
        simpa using a
  · obtain ⟨g, ys, e, a⟩ := hP
    refine ⟨g _ _ upd_same, q _ _ (g.lock hx) (by rw [upd_ne hne] at hD; exact hD) ⟨ys, by rw [upd_ne hne]; exact e, ?_⟩⟩
    rw [List.take_length] at a
    refine Paired.mapP a fun _ _ z => z.keep fun b zs hb => ?_
    rcases hb with (hb | ⟨o, hb⟩) | hb
    · exact .inl (.inl (by rw [upd_ne (fun z => by rw [z, g _ _ upd_same] at hb; cases hb)]; exact hb))
    · exact .inl (.inr ⟨o, by rw [upd_ne (fun z => by rw [z, g _ _ upd_same] at hb; cases hb)]; exact hb⟩)
    · exact .inr hb
end
/-! ### sorted points -/
def keyD : Key → PyData
  | .inl i => .int i
  | .inr z => .str z
def ptD : PK → PyData
  | .inl k => keyD k
  | .inr ks => .tuple (ks.map keyD)
section
variable {K : PySem.W.Frag} {H : Hp}
theorem dp_key {k : Key} : Dp K H (kV k) (keyD k) := by cases k <;> constructor
theorem dp_keys : ∀ {ks : List Key}, DpAll K H (ks.map kV) (ks.map keyD)
  | [] => .nil
  | k :: ks => .cons dp_key dp_keys
theorem KyV.dp {k : PK} {v : V} (h : KyV K H k v) : Dp K H v (ptD k) := by
  cases k with
  | inl j => cases h; exact dp_key
  | inr ks => obtain ⟨a, rfl, q⟩ := h; exact .tup q dp_keys
def isStrK : PK → Bool
  | .inl (.inr _) => true
  | _ => false
def isTupK : PK → Bool
  | .inr _ => true
  | _ => false
theorem str_ty {P : Program} {w : World} (k : PK) (v : V) (H : Hp) (h : KyV K H k v) : ∃ t, TyA P w K H v t ∧ kitB t "str" = some (isStrK k) := by
  match k, h with
  | .inl (.inl i), h => cases h; exact ⟨_, .int i, rfl⟩
  | .inl (.inr z), h => cases h; exact ⟨_, .str z, rfl⟩
  | .inr ks, ⟨a, e, q⟩ => subst e; exact ⟨_, .tup q, rfl⟩
theorem tup_ty {P : Program} {w : World} (k : PK) (v : V) (H : Hp) (h : KyV K H k v) : ∃ t, TyA P w K H v t ∧ kitB t "tuple" = some (isTupK k) := by
  match k, h with
  | .inl (.inl i), h => cases h; exact ⟨_, .int i, rfl⟩
  | .inl (.inr z), h => cases h; exact ⟨_, .str z, rfl⟩
  | .inr ks, ⟨a, e, q⟩ => subst e; exact ⟨_, .tup q, rfl⟩
theorem zip_fst {α β : Type} {R : α → β → Prop} {as : List α} {bs : List β} (h : Paired R as bs) : (as.zip bs).map (·.1) = as ∧ (as.zip bs).map (·.2) = bs ∧ ∀ p ∈ as.zip bs, R p.1 p.2 := by
  induction h with
  | nil => exact ⟨rfl, rfl, fun _ h => by cases h⟩
  | cons r t ih =>
    refine ⟨by rw [List.zip_cons_cons, List.map_cons, ih.1], by rw [List.zip_cons_cons, List.map_cons, ih.2.1], fun p hp => ?_⟩
    rcases List.mem_cons.mp hp with rfl | hp
    · exact r
    · exact ih.2.2 p hp
theorem of_zip {α β : Type} {R : α → β → Prop} : ∀ {ps : List (α × β)}, (∀ p ∈ ps, R p.1 p.2) → Paired R (ps.map (·.1)) (ps.map (·.2))
  | [], _ => .nil
  | p :: ps, h => .cons (h p List.mem_cons_self) (of_zip fun q hq => h q (List.mem_cons_of_mem _ hq))
theorem pt_depth {k : PK} (h : isStrK k = true ∨ isTupK k = true ∧ GoodP k) : (ptD k).depth ≤ 8 := by
  rcases h with h | ⟨h, g⟩
  · match k, h with
    | .inl (.inr z), _ => simp [ptD, keyD, PyData.depth]
  · rcases g.cases with ⟨z, rfl, _⟩ | ⟨a, b, c, rfl, _⟩
    · cases h
    · simp [ptD, keyD, PyData.depth, PyData.depthAll]
theorem alike_of {ds : List PK} (h : (∀ k ∈ ds, isStrK k = true) ∨ ∀ k ∈ ds, isTupK k = true ∧ GoodP k) : PySem.W.AllAlike (ds.map ptD) := by
  intro d hd d' hd'
  obtain ⟨k, hk, rfl⟩ := List.mem_map.mp hd
  obtain ⟨k', hk', rfl⟩ := List.mem_map.mp hd'
  rcases h with h | h
  · match k, h k hk, k', h k' hk' with
    | .inl (.inr z), _, .inl (.inr z'), _ => rfl
  · obtain ⟨h1, g1⟩ := h k hk
    obtain ⟨h2, g2⟩ := h k' hk'
    rcases g1.cases with ⟨z, rfl, _⟩ | ⟨a, b, c, rfl, _⟩
    · cases h1
    · rcases g2.cases with ⟨z, rfl, _⟩ | ⟨a', b', c', rfl, _⟩
      · cases h2
      · rfl
theorem sortable_of {ds : List PK} (h : (∀ k ∈ ds, isStrK k = true) ∨ ∀ k ∈ ds, isTupK k = true ∧ GoodP k) : PySem.W.Sortable (ds.map ptD) := by
  rcases h with h | h
  · refine .inr fun d hd => ?_
    obtain ⟨k, hk, rfl⟩ := List.mem_map.mp hd
    match k, h k hk with
    | .inl (.inr z), _ => exact ⟨nofun, nofun⟩
  · refine .inl fun d hd => ?_
    obtain ⟨k, hk, rfl⟩ := List.mem_map.mp hd
    obtain ⟨h1, g1⟩ := h k hk
    rcases g1.cases with ⟨z, rfl, _⟩ | ⟨a, b, c, rfl, _⟩
    · cases h1
    · exact ⟨_, _, rfl⟩
theorem sort_pts {a : Addr} {Q : VK} {ks : List PK} (hv : PLV K H a ks) (hk : (∀ k ∈ ks, isStrK k = true) ∨ ∀ k ∈ ks, isTupK k = true ∧ GoodP k)
    (q : ∀ p ks' xs', H p = none → ks'.Perm ks → Paired (KyV K (upd H p (.lst xs'))) ks' xs' → Q (.ref p) (upd H p (.lst xs'))) : rSortD K [.ref a] H Q := by
  obtain ⟨xs, hx, pr⟩ := hv
  obtain ⟨z1, z2, z3⟩ := zip_fst pr
  have hmem : ∀ p ∈ ks.zip xs, p.1 ∈ ks := fun p hp => by rw [← z1]; exact List.mem_map_of_mem hp
  refine ⟨a, (ks.zip xs).map fun p => (p.2, ptD p.1), rfl, .inl (.inl ?_), fun b hb => ?_, ?_, ?_, fun p hp => ?_⟩
  · rw [List.map_map, hx]
    exact congrArg (fun l => some (HO.lst l)) z2.symm
  · obtain ⟨p, hp, rfl⟩ := List.mem_map.mp hb
    refine ⟨(z3 p hp).dp, pt_depth (hk.elim (fun h => .inl (h _ (hmem p hp))) fun h => .inr (h _ (hmem p hp)))⟩
  · rw [List.map_map, show ((fun x : V × PyData => x.2) ∘ fun p : PK × V => (p.2, ptD p.1)) = ptD ∘ (·.1) from rfl, ← List.map_map, z1]
    exact alike_of hk
  · rw [List.map_map, show ((fun x : V × PyData => x.2) ∘ fun p : PK × V => (p.2, ptD p.1)) = ptD ∘ (·.1) from rfl, ← List.map_map, z1]
    exact sortable_of hk
  · have e := List.map_mergeSort (r := fun a b : PK × V => PySem.W.dataLe false Prod.snd (a.2, ptD a.1) (b.2, ptD b.1)) (s := PySem.W.dataLe false (Prod.snd (α := V))) (f := fun p : PK × V => (p.2, ptD p.1)) (l := ks.zip xs) (fun _ _ _ _ => rfl)
    rw [← e, List.map_map]
    have pm := List.mergeSort_perm (ks.zip xs) (fun a b : PK × V => PySem.W.dataLe false Prod.snd (a.2, ptD a.1) (b.2, ptD b.1))
    have r := of_zip (R := KyV K H) (ps := (ks.zip xs).mergeSort (fun a b : PK × V => PySem.W.dataLe false Prod.snd (a.2, ptD a.1) (b.2, ptD b.1))) fun p hp => z3 p (pm.mem_iff.mp hp)
    refine q p _ _ hp ?_ (Paired.mapP r fun _ _ h => h.keep (Tk.new hp))
    have := pm.map (·.1)
    rw [z1] at this
    exact this
end
end Mk


set_option Elab.async false
set_option linter.all false
set_option maxRecDepth 100000
set_option maxHeartbeats 400000
/-! points_of -/
namespace Mk
open PySem PySem.Spec PyProof.Rows L2
section
variable {P : Program} {w : World} {K : PySem.W.Frag} {mg : Str → Option Value} {base : Heap}
def zeroP : PK := .inl (.inr "")
def allPts (ds : List Dif) : List PK := zeroP :: ds.flatMap fun d => [d.1, d.2.1]
def PtsOf (ds : List Dif) (ks : List PK) : Prop := ks.Nodup ∧ ∀ k, k ∈ ks ↔ k ∈ allPts ds
/-- the keys of the dict of points, row by row -/
def foundM : List Dif → List (PK × V)
  | [] => [(zeroP, .bl true)]
  | d :: ds => putK (putK (foundM ds) d.1 (.bl true)) d.2.1 (.bl true)
theorem foundM_nodup : ∀ ds, ((foundM ds).map (·.1)).Nodup
  | [] => by simp [foundM]
  | d :: ds => putK_nodup (putK_nodup (foundM_nodup ds))
theorem foundM_mem {k : PK} : ∀ ds, k ∈ (foundM ds).map (·.1) ↔ k ∈ allPts ds
  | [] => by simp [foundM, allPts]
  | d :: ds => by
    rw [foundM, putK_mem, putK_mem, foundM_mem ds]
    simp only [allPts, List.flatMap_cons, List.mem_cons, List.mem_append, List.not_mem_nil, or_false]
    constructor
    · rintro (h | h | h | h) <;> simp [h]
    · rintro (h | (h | h) | h) <;> simp [h]
theorem foundM_len : ∀ ds, (foundM ds).length ≤ 2 * ds.length + 1
  | [] => by simp [foundM]
  | d :: ds => by
    have h1 := foundM_len ds
    have h2 := putK_len (kvs := foundM ds) (k := d.1) (v := .bl true)
    have h3 := putK_len (kvs := putK (foundM ds) d.1 (.bl true)) (k := d.2.1) (v := .bl true)
    rw [foundM, List.length_cons]
    omega
theorem allPts_good {ds : List Dif} (hg : ∀ d ∈ ds, GoodD d) {k : PK} (h : k ∈ allPts ds) : GoodP k := by
  rcases List.mem_cons.mp h with rfl | h
  · exact ⟨by decide, by decide⟩
  · obtain ⟨d, hd, h⟩ := List.mem_flatMap.mp h
    obtain ⟨g1, g2, _⟩ := hg d hd
    simp only [List.mem_cons, List.not_mem_nil, or_false] at h
    rcases h with rfl | rfl
    · exact g1
    · exact g2
theorem ptsOf_found {ds : List Dif} (hg : ∀ d ∈ ds, GoodD d) {k1 k2 : List PK} (h1 : k1.Perm (((foundM ds.reverse).map (·.1)).filter isStrK)) (h2 : k2.Perm (((foundM ds.reverse).map (·.1)).filter isTupK)) : PtsOf ds (k1 ++ k2) := by
  have hm : ∀ k, k ∈ allPts ds.reverse ↔ k ∈ allPts ds := fun k => by simp [allPts]
  have nd := foundM_nodup ds.reverse
  refine ⟨List.nodup_append.mpr ⟨h1.nodup_iff.mpr (nd.filter _), h2.nodup_iff.mpr (nd.filter _), fun a ha b hb => ?_⟩, fun k => ?_⟩
  · have e1 := (List.mem_filter.mp (h1.mem_iff.mp ha)).2
    have e2 := (List.mem_filter.mp (h2.mem_iff.mp hb)).2
    rintro rfl
    match a, e1, e2 with
    | .inl _, _, e2 => cases e2
    | .inr _, e1, _ => cases e1
  · rw [List.mem_append, h1.mem_iff, h2.mem_iff, List.mem_filter, List.mem_filter, ← and_or_left, foundM_mem, hm]
    refine ⟨fun h => h.1, fun h => ⟨h, ?_⟩⟩
    rcases (allPts_good hg h).cases with ⟨z, rfl, _⟩ | ⟨a, b, c, rfl, _⟩
    · exact .inl rfl
    · exact .inr rfl
def spPts (K : PySem.W.Frag) : Sp := fun vs H Q _ => ∃ v ds, vs = [v] ∧ DsV K H ds v ∧ GoodDs ds ∧ ∀ H' p ks, Gx H H' → H p = none → PLV K H' p ks → PtsOf ds ks → Q (.ref p) H'
theorem pair_app {α β : Type} {R : α → β → Prop} {as cs : List α} {bs es : List β} (h : Paired R as bs) (k : Paired R cs es) : Paired R (as ++ cs) (bs ++ es) := by
  induction h with
  | nil => exact k
  | cons r _ ih => exact .cons r ih
theorem C_points_of (T : Tops mg) (D : Def K mg "points_of" s_points_of ["differences"]) : Cal P w K mg base "points_of" 1 ["differences"] (spPts K) := by
  refine Cal.of D sc_points_of (fun vs H Q E h => ?_) (fun f cdv A outer s H vs Q E hr h => ?_)
  · obtain ⟨i, k, rfl, _⟩ := h; rfl
  · obtain ⟨v, ds, rfl, ⟨a, vs, rfl, hS, hv⟩, ⟨hl, hg⟩, q⟩ := h
    have hu := hu_of hr
    have h0 := hr.units0
    have h20 : (A.deeper _).units + 20 < cLine := Nat.lt_of_le_of_lt (Nat.add_le_add_left (by decide : 20 ≤ 64) _) hr.units
    refine ⟨_, (pss_cons (ps_set (i := 1) sc_points_of.nd rfl (Or.inl rfl) (pe_disp1 h0 (pe_const T.c_ZERO (by rfl)) pe_bl))
      (pss_cons (ps_for PassesOwn.never rfl (pi_tup (pv 0)) (pg_tup rfl (pgs_cons (pg_name (i := 2) sc_points_of.nd rfl (Or.inl rfl)) (pgs_cons (pg_name (i := 3) sc_points_of.nd rfl (Or.inl rfl)) (pgs_cons (pg_name (i := 4) sc_points_of.nd rfl (Or.inl rfl)) pgs_nil))))
      (pss_cons (ps_asg pe_bl (pg_sub (pv 1) (pv 2) (set_dic hu)))
      (pss_one (ps_asg pe_bl (pg_sub (pv 1) (pv 3) (set_dic hu))))))
      (pss_cons (ps_set (i := 5) sc_points_of.nd rfl (Or.inl rfl) (pe_callB (call_sortD h20) (by rfl) T.b_sorted (by decide +kernel) (pa_cons (pe_lock (pe_lc (own := [("point", 6)]) rfl sc_points_of.nd (pi_dic (pv 1)) (blkOk_by (own := [("point", 6)]) (N := N_points_of) (sc := defScope s_points_of) (by decide +kernel)) (fun _ _ _ _ _ => (pg_name (i := 6) sc_points_of.nd rfl (Or.inl rfl))) (fun _ _ _ _ _ => (pts_one (pt_val (pe_callB (call_isA' (P := P) (w := w) (K := K) rfl rfl rfl) (by rfl) T.b_isinstance (by decide +kernel) (pa_cons (pv 6) (pa_cons (pe_bltn (v := .ty "str") (u := .type "str") (by rfl) T.b_str (by decide +kernel) rfl) pa_nil)))))) (fun _ _ _ _ _ => (pv 6)))) pa_nil)))
      (pss_one (ps_ret (pe_op op_cat (pv 5) (pe_callB (call_sortD h20) (by rfl) T.b_sorted (by decide +kernel) (pa_cons (pe_lock (pe_lc (own := [("point", 6)]) rfl sc_points_of.nd (pi_dic (pv 1)) (blkOk_by (own := [("point", 6)]) (N := N_points_of) (sc := defScope s_points_of) (by decide +kernel)) (fun _ _ _ _ _ => (pg_name (i := 6) sc_points_of.nd rfl (Or.inl rfl))) (fun _ _ _ _ _ => (pts_one (pt_val (pe_callB (call_isA' (P := P) (w := w) (K := K) rfl rfl rfl) (by rfl) T.b_isinstance (by decide +kernel) (pa_cons (pv 6) (pa_cons (pe_bltn (v := .ty "tuple") (u := .type "tuple") (by rfl) T.b_tuple (by decide +kernel) rfl) pa_nil)))))) (fun _ _ _ _ _ => (pv 6)))) pa_nil)))))))), ?_⟩
    simp only [cxOf, Cx.nox, L2.start, tRet, tAndV, tOrV, tNotV, tCB, tCons, tNil, tVar, tC, tOp, tUn, tChain, tIfS, tTest, tSeq, tNext, tB, tOr, tAnd, tNot, tAsg, tDrop, tCall, rI0, rI, rU, List.cons_append, List.nil_append, List.append_nil, List.map_cons, List.map_nil, List.length_cons, List.length_nil, Nat.reduceAdd, Nat.reduceSub, List.replicate_succ, List.replicate_zero, List.getElem?_cons_zero, List.getElem?_cons_succ, Option.some.injEq, exists_eq_left, exists_eq_left', exists_eq_right, V.int.injEq, V.bl.injEq, V.str.injEq, V.ref.injEq, true_and, and_true, exists_and_left, if_true, if_false, gTup, gCons, gNil, gSub, gName, Mk.rSetD, List.set_cons_zero, List.set_cons_succ, Bool.false_eq_true, List.cons.injEq, Bool.not_true, Bool.not_false, eq_self, decide_true, decide_false, c3, N_points_of, tDisp1]
    intro D u hD hD0
    refine ⟨zeroP, rfl, hD0, fun u1 hD1 => ?_⟩
    refine ⟨_, rfl, a, rfl, ⟨vs, ((Gx.new hD).mut hD).seqT hS⟩, for_it (walk_tup (xs := vs)) (fun i σ H' => ∃ x2 x3 x4, σ = [some (.ref a), some (.ref D), x2, x3, x4, none, none] ∧ Gx H H' ∧ DicW P w K H' D (foundM (ds.take i).reverse)) ⟨_, _, _, rfl, (Gx.new hD).mut hD, hD1⟩ (fun i σ H' _ h => ?_) (fun i x σ H1 H2 hi hP hY => ?_) (fun σ H1 hP => ?_)⟩
    · obtain ⟨_, _, _, _, g, _⟩ := h
      exact g.seqT hS
    · obtain ⟨rfl, hx⟩ := hY
      obtain ⟨x2, x3, x4, rfl, g, hd⟩ := hP
      obtain ⟨d, hdi, hdx⟩ := pair_at hv hx
      obtain ⟨p, y1, y2, rfl, hp, k1, k2⟩ := hdx.keep g.tk
      have ll : (foundM (ds.take i).reverse).length ≤ 121 := by
        have h1 := foundM_len (ds.take i).reverse
        have h2 := take_len (i := i) hl
        rw [List.length_reverse] at h1
        omega
      have hn : (ds.take (i + 1)).reverse = d :: (ds.take i).reverse := by rw [take_s hdi, List.reverse_append]; rfl
      refine ⟨p, _, rfl, hp, rfl, _, _, rfl, _, _, rfl, _, _, rfl, rfl, ?_⟩
      simp only [cxOf, Cx.nox, L2.start, tRet, tAndV, tOrV, tNotV, tCB, tCons, tNil, tVar, tC, tOp, tUn, tChain, tIfS, tTest, tSeq, tNext, tB, tOr, tAnd, tNot, tAsg, tDrop, tCall, rI0, rI, rU, List.cons_append, List.nil_append, List.append_nil, List.map_cons, List.map_nil, List.length_cons, List.length_nil, Nat.reduceAdd, Nat.reduceSub, List.replicate_succ, List.replicate_zero, List.getElem?_cons_zero, List.getElem?_cons_succ, Option.some.injEq, exists_eq_left, exists_eq_left', exists_eq_right, V.int.injEq, V.bl.injEq, V.str.injEq, V.ref.injEq, true_and, and_true, exists_and_left, if_true, if_false, gTup, gCons, gNil, gSub, gName, Mk.rSetD, List.set_cons_zero, List.set_cons_succ, Bool.false_eq_true, List.cons.injEq, Bool.not_true, Bool.not_false, eq_self, decide_true, decide_false, c3]
      refine ⟨_, hd, d.1, k1, line_lt ll, fun u2 h2 => ?_⟩
      have kk : Tk K H2 (upd H2 D u2) := Tk.mut hd.mut
      refine ⟨_, h2, d.2.1, k2.keep kk, line_lt (Nat.le_trans putK_len (Nat.succ_le_succ ll)), fun u3 h3 => ?_⟩
      refine ⟨_, _, _, ⟨rfl, rfl, rfl⟩, (g.mut hD).mut hD, ?_⟩
      rw [hn]
      exact h3
    · obtain ⟨x2, x3, x4, rfl, g, hd⟩ := hP
      rw [show vs.length = ds.length from (Paired.length hv).symm, List.take_length] at hd
      have hl2 : (foundM ds.reverse).length ≤ 1000 := by
        have := foundM_len ds.reverse
        rw [List.length_reverse] at this
        omega
      simp only [cxOf, Cx.nox, L2.start, tRet, tAndV, tOrV, tNotV, tCB, tCons, tNil, tVar, tC, tOp, tUn, tChain, tIfS, tTest, tSeq, tNext, tB, tOr, tAnd, tNot, tAsg, tDrop, tCall, rI0, rI, rU, List.cons_append, List.nil_append, List.append_nil, List.map_cons, List.map_nil, List.length_cons, List.length_nil, Nat.reduceAdd, Nat.reduceSub, List.replicate_succ, List.replicate_zero, List.getElem?_cons_zero, List.getElem?_cons_succ, Option.some.injEq, exists_eq_left, exists_eq_left', exists_eq_right, V.int.injEq, V.bl.injEq, V.str.injEq, V.ref.injEq, true_and, and_true, exists_and_left, if_true, if_false, gTup, gCons, gNil, gSub, gName, Mk.rSetD, List.set_cons_zero, List.set_cons_succ, Bool.false_eq_true, List.cons.injEq, Bool.not_true, Bool.not_false, eq_self, decide_true, decide_false, c3]
      refine filt_dic isStrK str_ty (by decide) rfl (Nat.le_refl 7) hd hl2 fun H3 r g3 hr3 pl3 => ?_
      refine sort_pts pl3 (.inl fun k hk => (List.mem_filter.mp hk).2) fun p ks1 xs1 hp pm1 pr1 => ?_
      have gg : Gx H1 (upd H3 p (.lst xs1)) := g3.mut (g3.free hp)
      refine filt_dic isTupK tup_ty (by decide) rfl (Nat.le_refl 7) (gg.dicW hd) hl2 fun H4 r4 g4 hr4 pl4 => ?_
      refine sort_pts pl4 (.inr fun k hk => ?_) fun p5 ks5 xs5 hp5 pm5 pr5 => ?_
      · obtain ⟨hm, ht⟩ := List.mem_filter.mp hk
        refine ⟨ht, allPts_good (ds := ds.reverse) (fun d hd => hg d (List.mem_reverse.mp hd)) ((foundM_mem _).mp hm)⟩
      have g5 : Gx H4 (upd H4 p5 (.lst xs5)) := .new hp5
      have e1 : (upd H4 p5 (.lst xs5)) p = some (.lst xs1) := g5 _ _ (g4 _ _ upd_same)
      have l1 : xs1.length ≤ 1000 := by
        rw [← Paired.length pr1, pm1.length_eq]
        exact Nat.le_trans (List.length_filter_le _ _) (by rw [List.length_map]; exact hl2)
      have l5 : xs5.length ≤ 1000 := by
        rw [← Paired.length pr5, pm5.length_eq]
        exact Nat.le_trans (List.length_filter_le _ _) (by rw [List.length_map]; exact hl2)
      refine ⟨p, p5, xs1, xs5, rfl, rfl, e1, upd_same, line_le (m := 2000) (by omega), fun p6 hp6 => ?_⟩
      have g6 : Gx H1 (upd H4 p5 (.lst xs5)) := gg.trans (g4.trans g5)
      refine q _ p6 (ks1 ++ ks5) (g.trans (g6.trans (.new hp6))) ((g.trans g6).free hp6) ⟨_, upd_same, ?_⟩ (ptsOf_found hg pm1 pm5)
      exact pair_app (Paired.mapP pr1 fun _ _ z => z.keep ((g4.trans (g5.trans (.new hp6))).tk)) (Paired.mapP pr5 fun _ _ z => z.keep (Gx.new hp6).tk)
end
end Mk


set_option Elab.async false
set_option linter.all false
set_option maxRecDepth 100000
set_option maxHeartbeats 400000
/-! dicts of numbers; heaps that grow but for two objects; improved, as a fold -/
namespace Mk
open PySem PySem.Spec PyProof.Rows L2
section
variable {β : Type}
def putA (kvs : List (PK × β)) (k : PK) (v : β) : List (PK × β) :=
  if (kvs.any fun kv => decide (kv.1 = k)) = true then kvs.map (fun kv => if kv.1 = k then (kv.1, v) else kv) else kvs ++ [(k, v)]
def lookA (kvs : List (PK × β)) (k : PK) : Option β := (kvs.find? fun kv => decide (kv.1 = k)).map (·.2)
theorem lookA_nil {k : PK} : lookA ([] : List (PK × β)) k = none := rfl
theorem lookA_cons {p : PK × β} {kvs : List (PK × β)} {k : PK} : lookA (p :: kvs) k = if p.1 = k then some p.2 else lookA kvs k := by
  by_cases e : p.1 = k <;> simp [lookA, List.find?_cons, e]
theorem lookA_mem {kvs : List (PK × β)} {k : PK} : (lookA kvs k).isSome = true ↔ k ∈ kvs.map (·.1) := by
  induction kvs with
  | nil => simp [lookA_nil]
  | cons p kvs ih =>
    rw [lookA_cons, List.map_cons, List.mem_cons]
    by_cases e : p.1 = k
    · simp [e]
    · rw [if_neg e, ih]
      exact ⟨.inr, fun h => h.elim (fun z => absurd z.symm e) id⟩
theorem lookA_none {kvs : List (PK × β)} {k : PK} : lookA kvs k = none ↔ k ∉ kvs.map (·.1) := by
  rw [← lookA_mem, Bool.not_eq_true, Option.isSome_eq_false_iff, Option.isNone_iff_eq_none]
theorem any_iff {kvs : List (PK × β)} {k : PK} : (kvs.any fun kv => decide (kv.1 = k)) = true ↔ k ∈ kvs.map (·.1) := by
  rw [List.any_eq_true, List.mem_map]
  exact ⟨fun ⟨p, a, b⟩ => ⟨p, a, by simpa using b⟩, fun ⟨p, a, b⟩ => ⟨p, a, by simpa using b⟩⟩
theorem lookA_app {l r : List (PK × β)} {k : PK} : lookA (l ++ r) k = (lookA l k).or (lookA r k) := by
  induction l with
  | nil => rfl
  | cons p l ih =>
    rw [List.cons_append, lookA_cons, lookA_cons, ih]
    by_cases e : p.1 = k <;> simp [e]
theorem lookA_put {kvs : List (PK × β)} {k x : PK} {v : β} : lookA (putA kvs k v) x = if x = k then some v else lookA kvs x := by
  unfold putA
  by_cases h : (kvs.any fun kv => decide (kv.1 = k)) = true
  · rw [if_pos h]
    have hm := any_iff.mp h
    clear h
    induction kvs with
    | nil => cases hm
    | cons p kvs ih =>
      rw [List.map_cons, lookA_cons, lookA_cons]
      by_cases e : p.1 = k
      · rw [if_pos e]
        by_cases q : x = k
        · simp [e, q]
        · rw [if_neg q, if_neg (fun z => q (z.symm.trans e)), if_neg (fun z => q (z.symm.trans e))]
          by_cases hk : k ∈ kvs.map (·.1)
          · rw [ih hk, if_neg q]
          · have : kvs.map (fun kv => if kv.1 = k then (kv.1, v) else kv) = kvs := by
              conv => rhs; rw [← List.map_id kvs]
              refine List.map_congr_left fun r hr => ?_
              have hr1 : r.1 ∈ kvs.map (·.1) := List.mem_map_of_mem hr
              rw [if_neg (fun z : r.1 = k => hk (by rw [← z]; exact hr1))]; rfl
            rw [this]
      · rw [if_neg e]
        have hk : k ∈ kvs.map (·.1) := by
          rcases List.mem_cons.mp hm with z | z
          · exact absurd z.symm e
          · exact z
        rw [ih hk]
        by_cases q : p.1 = x
        · rw [if_pos q, if_pos q, if_neg (fun z => e (q.trans z))]
        · rw [if_neg q, if_neg q]
  · rw [if_neg h, lookA_app]
    have hn : k ∉ kvs.map (·.1) := fun z => h (any_iff.mpr z)
    rw [lookA_cons, lookA_nil]
    by_cases q : x = k
    · subst q
      rw [lookA_none.mpr hn]; simp
    · rw [if_neg (fun z => q z.symm), if_neg q]; simp
theorem putA_len {kvs : List (PK × β)} {k : PK} {v : β} : (putA kvs k v).length ≤ kvs.length + 1 := by
  unfold putA
  by_cases h : (kvs.any fun kv => decide (kv.1 = k)) = true
  · rw [if_pos h, List.length_map]; omega
  · rw [if_neg h, List.length_append]; exact Nat.le_refl _
theorem putA_mem {kvs : List (PK × β)} {k x : PK} {v : β} : x ∈ (putA kvs k v).map (·.1) ↔ x = k ∨ x ∈ kvs.map (·.1) := by
  rw [← lookA_mem, lookA_put, ← lookA_mem]
  by_cases q : x = k <;> simp [q]
theorem putA_nodup {kvs : List (PK × β)} {k : PK} {v : β} (h : (kvs.map (·.1)).Nodup) : ((putA kvs k v).map (·.1)).Nodup := by
  unfold putA
  by_cases e : (kvs.any fun kv => decide (kv.1 = k)) = true
  · rw [if_pos e, List.map_map]
    have : ((fun x : PK × β => x.1) ∘ fun kv => if kv.1 = k then (kv.1, v) else kv) = (·.1) := by
      funext p
      by_cases q : p.1 = k <;> simp [q]
    rw [this]; exact h
  · have hn : k ∉ kvs.map (·.1) := fun z => e (any_iff.mpr z)
    rw [if_neg e, List.map_append, List.map_singleton, List.nodup_append]
    exact ⟨h, by simp, fun a ha b hb => by rw [List.mem_singleton] at hb; subst hb; exact fun z => hn (z ▸ ha)⟩
/-- as values -/
def VM (f : β → V) (kvs : List (PK × β)) : List (PK × V) := kvs.map fun p => (p.1, f p.2)
theorem VM_put {f : β → V} {kvs : List (PK × β)} {k : PK} {v : β} : VM f (putA kvs k v) = putK (VM f kvs) k (f v) := by
  unfold VM putA putK
  have e : ((kvs.map fun p => (p.1, f p.2)).any fun kv => decide (kv.1 = k)) = (kvs.any fun kv => decide (kv.1 = k)) := by rw [List.any_map]; rfl
  rw [e]
  by_cases h : (kvs.any fun kv => decide (kv.1 = k)) = true
  · rw [if_pos h, if_pos h, List.map_map, List.map_map]
    refine List.map_congr_left fun p _ => ?_
    by_cases q : p.1 = k <;> simp [q]
  · rw [if_neg h, if_neg h, List.map_append]; rfl
theorem VM_look {f : β → V} {kvs : List (PK × β)} {k : PK} : valV (VM f kvs) k = (lookA kvs k).map f := by
  induction kvs with
  | nil => rfl
  | cons p kvs ih =>
    rw [lookA_cons]
    by_cases e : p.1 = k
    · rw [if_pos e]
      exact valV_pos e
    · rw [if_neg e, ← ih]
      exact valV_neg e
theorem VM_len {f : β → V} {kvs : List (PK × β)} : (VM f kvs).length = kvs.length := List.length_map ..
end
abbrev Num := List (PK × Int)
abbrev IM (N : Num) : List (PK × V) := VM V.int N
/-- one row of improved: the numbers, the steps, whether something has changed -/
def stepM (s : Num × Num × Bool) (i : Int) (d : Dif) : Num × Num × Bool :=
  match lookA s.1 d.2.1 with
  | none => s
  | some y => match lookA s.1 d.1 with
    | none => (putA s.1 d.1 (y + d.2.2), putA s.2.1 d.1 i, true)
    | some x => if y + d.2.2 < x then (putA s.1 d.1 (y + d.2.2), putA s.2.1 d.1 i, true) else s
theorem stepM_none {N S : Num} {b : Bool} {i : Int} {d : Dif} (h : lookA N d.2.1 = none) : stepM (N, S, b) i d = (N, S, b) := by simp [stepM, h]
theorem stepM_new {N S : Num} {b : Bool} {i y : Int} {d : Dif} (h : lookA N d.2.1 = some y) (h2 : lookA N d.1 = none) : stepM (N, S, b) i d = (putA N d.1 (y + d.2.2), putA S d.1 i, true) := by simp [stepM, h, h2]
theorem stepM_lt {N S : Num} {b : Bool} {i y x : Int} {d : Dif} (h : lookA N d.2.1 = some y) (h2 : lookA N d.1 = some x) (h3 : y + d.2.2 < x) : stepM (N, S, b) i d = (putA N d.1 (y + d.2.2), putA S d.1 i, true) := by simp [stepM, h, h2, h3]
theorem stepM_ge {N S : Num} {b : Bool} {i y x : Int} {d : Dif} (h : lookA N d.2.1 = some y) (h2 : lookA N d.1 = some x) (h3 : ¬ y + d.2.2 < x) : stepM (N, S, b) i d = (N, S, b) := by simp [stepM, h, h2, h3]
def roundM (s : Num × Num × Bool) (i : Nat) : List Dif → Num × Num × Bool
  | [] => s
  | d :: ds => roundM (stepM s i d) (i + 1) ds
theorem roundM_app (s : Num × Num × Bool) (i : Nat) : ∀ (l r : List Dif), roundM s i (l ++ r) = roundM (roundM s i l) (i + l.length) r
  | [], r => rfl
  | d :: l, r => by
    rw [List.cons_append, roundM, roundM, roundM_app _ _ l r, List.length_cons]
    congr 1; omega
def improvedM (ds : List Dif) (N S : Num) : Num × Num × Bool := roundM (N, S, false) 0 ds
theorem stepM_len (s : Num × Num × Bool) (i : Int) (d : Dif) : (stepM s i d).1.length ≤ s.1.length + 1 ∧ (stepM s i d).2.1.length ≤ s.2.1.length + 1 := by
  unfold stepM
  split
  · exact ⟨Nat.le_succ _, Nat.le_succ _⟩
  · split
    · exact ⟨putA_len, putA_len⟩
    · split
      · exact ⟨putA_len, putA_len⟩
      · exact ⟨Nat.le_succ _, Nat.le_succ _⟩
theorem roundM_len (s : Num × Num × Bool) (i : Nat) : ∀ ds : List Dif, (roundM s i ds).1.length ≤ s.1.length + ds.length ∧ (roundM s i ds).2.1.length ≤ s.2.1.length + ds.length
  | [] => ⟨Nat.le_refl _, Nat.le_refl _⟩
  | d :: ds => by
    have h1 := stepM_len s i d
    have h2 := roundM_len (stepM s i d) (i + 1) ds
    rw [roundM, List.length_cons]
    omega
/-- a heap that grows but for two objects -/
def Gx2 (k l : Addr) (H H' : Hp) : Prop := ∀ a o, a ≠ k → a ≠ l → H a = some o → H' a = some o
section
variable {K : PySem.W.Frag} {H H1 H2 H' : Hp} {k l p : Addr} {o : HO}
theorem Gx2.refl : Gx2 k l H H := fun _ _ _ _ h => h
theorem Gx2.trans (a : Gx2 k l H H1) (b : Gx2 k l H1 H2) : Gx2 k l H H2 := fun x u m n h => b x u m n (a x u m n h)
theorem Gx.but2 (e : Gx H H') : Gx2 k l H H' := fun a o _ _ h => e a o h
theorem Gx2.set1 : Gx2 k l H (upd H k o) := fun a u m n e => by rw [upd_ne m]; exact e
theorem Gx2.set2 : Gx2 k l H (upd H l o) := fun a u m n e => by rw [upd_ne n]; exact e
theorem Gx2.new (h : H p = none) : Gx2 k l H (upd H p o) := (Gx.new h).but2
/-- something of k and l is not a tuple -/
theorem Gx2.tk (e : Gx2 k l H H') (hk : Mut (H k)) (hl : Mut (H l)) : Tk K H H' := fun a xs q => by
  have z : ∀ u, H a = some u → ¬ Mut (some u) → H' a = some u := fun u e1 e2 => e a u (fun z => by subst z; rw [e1] at hk; exact e2 hk) (fun z => by subst z; rw [e1] at hl; exact e2 hl) e1
  rcases q with (q | ⟨u, q⟩) | q
  · exact .inl (.inl (z _ q fun h => h))
  · exact .inl (.inr ⟨u, z _ q fun h => h⟩)
  · exact .inr q
theorem GxB.tkM (e : GxB k H H') (hk : Mut (H k)) : Tk K H H' := fun a xs q => by
  have z : ∀ u, H a = some u → ¬ Mut (some u) → H' a = some u := fun u e1 e2 => e a u (fun z => by subst z; rw [e1] at hk; exact e2 hk) e1
  rcases q with (q | ⟨u, q⟩) | q
  · exact .inl (.inl (z _ q fun h => h))
  · exact .inl (.inr ⟨u, z _ q fun h => h⟩)
  · exact .inr q
theorem Gx2.gx (e : Gx2 k l H H') (hk : H k = none) (hl : H l = none) : Gx H H' := fun a o h => e a o (fun z => by subst z; rw [hk] at h; cases h) (fun z => by subst z; rw [hl] at h; cases h) h
theorem Gx2.gxB (e : Gx2 k l H H') (hl : H l = none) : GxB k H H' := fun a o h1 h => e a o h1 (fun z => by subst z; rw [hl] at h; cases h) h
end
end Mk


set_option Elab.async false
set_option linter.all false
set_option maxRecDepth 100000
set_option maxHeartbeats 400000
/-! improved, settled -/
namespace Mk
open PySem PySem.Spec PyProof.Rows L2
section
variable {P : Program} {w : World} {K : PySem.W.Frag} {mg : Str → Option Value} {base : Heap}
def spImp (P : Program) (w : World) (K : PySem.W.Frag) : Sp := fun vs H Q _ => ∃ v dn dt ds N S, vs = [v, .ref dn, .ref dt] ∧ DsV K H ds v ∧ ds.length ≤ 60 ∧ dn ≠ dt ∧ DicW P w K H dn (IM N) ∧ DicW P w K H dt (IM S) ∧ N.length ≤ 200000 ∧ S.length ≤ 200000 ∧
  ∀ H', Gx2 dn dt H H' → DicW P w K H' dn (IM (improvedM ds N S).1) → DicW P w K H' dt (IM (improvedM ds N S).2.1) → Q (.bl (improvedM ds N S).2.2) H'
theorem C_improved (T : Tops mg) (D : Def K mg "improved" s_improved ["differences", "numbers", "steps"]) : Cal P w K mg base "improved" 1 ["differences", "numbers", "steps"] (spImp P w K) := by
  refine Cal.of D sc_improved (fun vs H Q E h => ?_) (fun f cdv A outer s H vs Q E hr h => ?_)
  · obtain ⟨v, dn, dt, ds, N, S, rfl, _⟩ := h; rfl
  · obtain ⟨v, dn, dt, ds, N, S, rfl, ⟨a, vs, rfl, hS, hv⟩, hl, hne, hN, hSt, lN, lS, q⟩ := h
    have hu := hu_of hr
    have h0 := hr.units0
    refine ⟨_, (pss_cons (ps_set (i := 3) sc_improved.nd rfl (Or.inl rfl) pe_bl)
      (pss_cons (ps_for PassesOwn.never rfl (pi_enumT (by rfl) T.b_enumerate (pa_cons (pv 0) pa_nil)) (pg_tup rfl (pgs_cons (pg_name (i := 4) sc_improved.nd rfl (Or.inl rfl)) (pgs_cons (pg_name (i := 5) sc_improved.nd rfl (Or.inl rfl)) pgs_nil)))
      (pss_cons (ps_asg (pv 5) (pg_tup rfl (pgs_cons (pg_name (i := 6) sc_improved.nd rfl (Or.inl rfl)) (pgs_cons (pg_name (i := 7) sc_improved.nd rfl (Or.inl rfl)) (pgs_cons (pg_name (i := 8) sc_improved.nd rfl (Or.inl rfl)) pgs_nil)))))
      (pss_one (ps_if (PW.pt (pw_and (pt_cmpR (op_inD' hu (P := P) (w := w) (K := K) rfl rfl rfl) (pv 7) (pv 1) (by rfl)) (pw_and1 (PW.pt (pw_or (pt_cmpR (op_notInD' hu (P := P) (w := w) (K := K) rfl rfl rfl) (pv 6) (pv 1) (by rfl)) (pw_or1 (pt_cmpR op_lt (pe_op op_add (pe_ix (ix_dic' hu (P := P) (w := w) (K := K) rfl rfl rfl) (pv 1) (pv 7) (fun _ _ => rfl)) (pv 8)) (pe_ix (ix_dic' hu (P := P) (w := w) (K := K) rfl rfl rfl) (pv 1) (pv 6) (fun _ _ => rfl)) (nomark _)))))))) (pss_cons (ps_asg (pe_op op_add (pe_ix (ix_dic' hu (P := P) (w := w) (K := K) rfl rfl rfl) (pv 1) (pv 7) (fun _ _ => rfl)) (pv 8)) (pg_sub (pv 1) (pv 6) (set_dic hu)))
      (pss_cons (ps_asg (pv 4) (pg_sub (pv 2) (pv 6) (set_dic hu)))
      (pss_one (ps_set (i := 3) sc_improved.nd rfl (Or.inl rfl) pe_bl)))) pss_nil))))
      (pss_one (ps_ret (pv 3))))), ?_⟩
    simp only [cxOf, Cx.nox, L2.start, tRet, tAndV, tOrV, tNotV, tCB, tCons, tNil, tVar, tC, tOp, tUn, tChain, tIfS, tTest, tSeq, tNext, tB, tOr, tAnd, tNot, tAsg, tDrop, tCall, rI0, rI, rU, List.cons_append, List.nil_append, List.append_nil, List.map_cons, List.map_nil, List.length_cons, List.length_nil, Nat.reduceAdd, Nat.reduceSub, List.replicate_succ, List.replicate_zero, List.getElem?_cons_zero, List.getElem?_cons_succ, Option.some.injEq, exists_eq_left, exists_eq_left', exists_eq_right, V.int.injEq, V.bl.injEq, V.str.injEq, V.ref.injEq, true_and, and_true, exists_and_left, if_true, if_false, gTup, gCons, gNil, gSub, gName, Mk.rSetD, List.set_cons_zero, List.set_cons_succ, Bool.false_eq_true, List.cons.injEq, Bool.not_true, Bool.not_false, eq_self, decide_true, decide_false, c3, N_improved]
    have mN := hN.mut
    have mS := hSt.mut
    refine ⟨_, rfl, a, vs, rfl, hS, for_it (walk_enumT (xs := vs)) (fun i σ H' => ∃ x4 x5 x6 x7 x8, σ = [some (.ref a), some (.ref dn), some (.ref dt), some (.bl (roundM (N, S, false) 0 (ds.take i)).2.2), x4, x5, x6, x7, x8] ∧ Gx2 dn dt H H' ∧
      DicW P w K H' dn (IM (roundM (N, S, false) 0 (ds.take i)).1) ∧ DicW P w K H' dt (IM (roundM (N, S, false) 0 (ds.take i)).2.1)) ⟨_, _, _, _, _, rfl, .refl, hN, hSt⟩ (fun i σ H' _ h => ?_) (fun i x σ H1 H2 hi hP hY => ?_) (fun σ H1 hP => ?_)⟩
    · obtain ⟨_, _, _, _, _, _, g, _⟩ := h
      exact (g.tk mN mS) _ _ hS
    · obtain ⟨t, y1, y2, rfl, ht, rfl, e1, e2⟩ := hY
      obtain rfl : V.int i = y1 := Option.some.inj e1
      obtain ⟨x4, x5, x6, x7, x8, rfl, g, hn, hs⟩ := hP
      obtain ⟨d, hdi, hdx⟩ := pair_at hv e2
      have g' : Gx2 dn dt H (upd H1 t (.tup [.int i, y2])) := g.trans (.new ht)
      have nt : Gx H1 (upd H1 t (.tup [.int i, y2])) := .new ht
      obtain ⟨p, z1, z2, rfl, hp, k1, k2⟩ := hdx.keep (g'.tk mN mS)
      have hn1 := nt.dicW hn
      have hs1 := nt.dicW hs
      have ln := roundM_len (N, S, false) 0 (ds.take i)
      have lt := take_len (i := i) hl
      dsimp only at ln
      have er : roundM (N, S, false) 0 (ds.take (i + 1)) = stepM (roundM (N, S, false) 0 (ds.take i)) i d := by
        rw [take_s hdi, roundM_app, Nat.zero_add, List.length_take, Nat.min_eq_left (Nat.le_of_lt (by have := (List.getElem?_eq_some_iff.mp hdi).1; exact this))]; rfl
      generalize roundM (N, S, false) 0 (ds.take i) = st at *
      obtain ⟨Ni, Si, bi⟩ := st
      refine ⟨t, _, rfl, .inl (.inl upd_same), rfl, _, _, rfl, _, _, rfl, rfl, ?_⟩
      simp only [cxOf, Cx.nox, L2.start, tRet, tAndV, tOrV, tNotV, tCB, tCons, tNil, tVar, tC, tOp, tUn, tChain, tIfS, tTest, tSeq, tNext, tB, tOr, tAnd, tNot, tAsg, tDrop, tCall, rI0, rI, rU, List.cons_append, List.nil_append, List.append_nil, List.map_cons, List.map_nil, List.length_cons, List.length_nil, Nat.reduceAdd, Nat.reduceSub, List.replicate_succ, List.replicate_zero, List.getElem?_cons_zero, List.getElem?_cons_succ, Option.some.injEq, exists_eq_left, exists_eq_left', exists_eq_right, V.int.injEq, V.bl.injEq, V.str.injEq, V.ref.injEq, true_and, and_true, exists_and_left, if_true, if_false, gTup, gCons, gNil, gSub, gName, Mk.rSetD, List.set_cons_zero, List.set_cons_succ, Bool.false_eq_true, List.cons.injEq, Bool.not_true, Bool.not_false, eq_self, decide_true, decide_false, c3]
      dsimp only at hn hs hn1 hs1 ln
      generalize upd H1 t (.tup [.int i, .ref p]) = H2 at *
      have hq : ∀ (H3 : Hp) (s3 : Num × Num × Bool), stepM (Ni, Si, bi) i d = s3 → Gx2 dn dt H2 H3 → DicW P w K H3 dn (IM s3.1) → DicW P w K H3 dt (IM s3.2.1) →
          s3.2.2 = (roundM (N, S, false) 0 (ds.take (i + 1))).2.2 ∧ Gx2 dn dt H H3 ∧ DicW P w K H3 dn (IM (roundM (N, S, false) 0 (ds.take (i + 1))).1) ∧ DicW P w K H3 dt (IM (roundM (N, S, false) 0 (ds.take (i + 1))).2.1) := by
        intro H3 s3 e g3 d3 d4
        rw [er, e]
        exact ⟨rfl, g'.trans g3, d3, d4⟩
      have hx : ∀ {b : Bool} {a4 a5 a6 a7 a8 : Option V} {H3 : Hp}, (b = (roundM (N, S, false) 0 (ds.take (i + 1))).2.2 ∧ Gx2 dn dt H H3 ∧ DicW P w K H3 dn (IM (roundM (N, S, false) 0 (ds.take (i + 1))).1) ∧ DicW P w K H3 dt (IM (roundM (N, S, false) 0 (ds.take (i + 1))).2.1)) →
          ∃ x4 x5 x6 x7 x8, (b = (roundM (N, S, false) 0 (ds.take (i + 1))).2.2 ∧ a4 = x4 ∧ a5 = x5 ∧ a6 = x6 ∧ a7 = x7 ∧ a8 = x8) ∧ Gx2 dn dt H H3 ∧ DicW P w K H3 dn (IM (roundM (N, S, false) 0 (ds.take (i + 1))).1) ∧ DicW P w K H3 dt (IM (roundM (N, S, false) 0 (ds.take (i + 1))).2.1) :=
        fun ⟨q1, q2⟩ => ⟨_, _, _, _, _, ⟨q1, rfl, rfl, rfl, rfl, rfl⟩, q2⟩
      have mn2 := hn1.mut
      have ms2 := hs1.mut
      have l1 : (IM Ni).length < sizeLine := by rw [VM_len]; exact line_lt (m := 200060) (by omega)
      have l2 : (IM Si).length < sizeLine := by rw [VM_len]; exact line_lt (m := 200060) (by omega)
      have look2 : ∀ {H' : Hp} {y : Int} (_ : lookA Ni d.2.1 = some y) (hd : DicW P w K H' dn (IM Ni)) (t : Tk K H2 H') {Q : VK}, Q (.int y) H' → Mk.rIxD P w K (.ref dn) z2 H' Q := fun e5 hd t _ q => ⟨dn, _, d.2.1, _, rfl, hd.r, k2.keep t, by rw [VM_look, e5]; rfl, q⟩
      have look1 : ∀ {H' : Hp} {y : Int} (_ : lookA Ni d.1 = some y) (hd : DicW P w K H' dn (IM Ni)) (t : Tk K H2 H') {Q : VK}, Q (.int y) H' → Mk.rIxD P w K (.ref dn) z1 H' Q := fun e5 hd t _ q => ⟨dn, _, d.1, _, rfl, hd.r, k1.keep t, by rw [VM_look, e5]; rfl, q⟩
      refine ⟨_, hp, rfl, _, _, rfl, _, _, rfl, _, _, rfl, rfl, dn, _, d.2.1, rfl, hn1.r, k2, ?_⟩
      rw [VM_look]
      rcases e5 : lookA Ni d.2.1 with _ | y
      · refine ⟨false, rfl, ?_⟩
        simp only [cxOf, Cx.nox, L2.start, tRet, tAndV, tOrV, tNotV, tCB, tCons, tNil, tVar, tC, tOp, tUn, tChain, tIfS, tTest, tSeq, tNext, tB, tOr, tAnd, tNot, tAsg, tDrop, tCall, rI0, rI, rU, List.cons_append, List.nil_append, List.append_nil, List.map_cons, List.map_nil, List.length_cons, List.length_nil, Nat.reduceAdd, Nat.reduceSub, List.replicate_succ, List.replicate_zero, List.getElem?_cons_zero, List.getElem?_cons_succ, Option.some.injEq, exists_eq_left, exists_eq_left', exists_eq_right, V.int.injEq, V.bl.injEq, V.str.injEq, V.ref.injEq, true_and, and_true, exists_and_left, if_true, if_false, gTup, gCons, gNil, gSub, gName, Mk.rSetD, List.set_cons_zero, List.set_cons_succ, Bool.false_eq_true, List.cons.injEq, Bool.not_true, Bool.not_false, eq_self, decide_true, decide_false, c3]
        exact hx (hq _ _ (stepM_none e5) .refl hn1 hs1)
      · refine ⟨true, rfl, ?_⟩
        simp only [cxOf, Cx.nox, L2.start, tRet, tAndV, tOrV, tNotV, tCB, tCons, tNil, tVar, tC, tOp, tUn, tChain, tIfS, tTest, tSeq, tNext, tB, tOr, tAnd, tNot, tAsg, tDrop, tCall, rI0, rI, rU, List.cons_append, List.nil_append, List.append_nil, List.map_cons, List.map_nil, List.length_cons, List.length_nil, Nat.reduceAdd, Nat.reduceSub, List.replicate_succ, List.replicate_zero, List.getElem?_cons_zero, List.getElem?_cons_succ, Option.some.injEq, exists_eq_left, exists_eq_left', exists_eq_right, V.int.injEq, V.bl.injEq, V.str.injEq, V.ref.injEq, true_and, and_true, exists_and_left, if_true, if_false, gTup, gCons, gNil, gSub, gName, Mk.rSetD, List.set_cons_zero, List.set_cons_succ, Bool.false_eq_true, List.cons.injEq, Bool.not_true, Bool.not_false, eq_self, decide_true, decide_false, c3]
        refine ⟨dn, _, d.1, rfl, hn1.r, k1, ?_⟩
        rw [VM_look]
        rcases e6 : lookA Ni d.1 with _ | x
        · refine ⟨true, rfl, ?_⟩
          simp only [cxOf, Cx.nox, L2.start, tRet, tAndV, tOrV, tNotV, tCB, tCons, tNil, tVar, tC, tOp, tUn, tChain, tIfS, tTest, tSeq, tNext, tB, tOr, tAnd, tNot, tAsg, tDrop, tCall, rI0, rI, rU, List.cons_append, List.nil_append, List.append_nil, List.map_cons, List.map_nil, List.length_cons, List.length_nil, Nat.reduceAdd, Nat.reduceSub, List.replicate_succ, List.replicate_zero, List.getElem?_cons_zero, List.getElem?_cons_succ, Option.some.injEq, exists_eq_left, exists_eq_left', exists_eq_right, V.int.injEq, V.bl.injEq, V.str.injEq, V.ref.injEq, true_and, and_true, exists_and_left, if_true, if_false, gTup, gCons, gNil, gSub, gName, Mk.rSetD, List.set_cons_zero, List.set_cons_succ, Bool.false_eq_true, List.cons.injEq, Bool.not_true, Bool.not_false, eq_self, decide_true, decide_false, c3]
          refine look2 e5 hn1 .refl ?_
          simp only [cxOf, Cx.nox, L2.start, tRet, tAndV, tOrV, tNotV, tCB, tCons, tNil, tVar, tC, tOp, tUn, tChain, tIfS, tTest, tSeq, tNext, tB, tOr, tAnd, tNot, tAsg, tDrop, tCall, rI0, rI, rU, List.cons_append, List.nil_append, List.append_nil, List.map_cons, List.map_nil, List.length_cons, List.length_nil, Nat.reduceAdd, Nat.reduceSub, List.replicate_succ, List.replicate_zero, List.getElem?_cons_zero, List.getElem?_cons_succ, Option.some.injEq, exists_eq_left, exists_eq_left', exists_eq_right, V.int.injEq, V.bl.injEq, V.str.injEq, V.ref.injEq, true_and, and_true, exists_and_left, if_true, if_false, gTup, gCons, gNil, gSub, gName, Mk.rSetD, List.set_cons_zero, List.set_cons_succ, Bool.false_eq_true, List.cons.injEq, Bool.not_true, Bool.not_false, eq_self, decide_true, decide_false, c3]
          refine ⟨_, hn1, d.1, k1, l1, fun u h1 => ⟨_, hs1.keep (upd_ne hne.symm) (Tk.mut mn2), d.1, k1.keep (Tk.mut mn2), l2, fun u2 h2 => ?_⟩⟩
          have mm := (hs1.keep (H' := upd H2 dn u) (upd_ne hne.symm) (Tk.mut mn2)).mut
          exact hx (hq _ _ (stepM_new e5 e6) (Gx2.set1.trans .set2) (by dsimp only [IM]; rw [VM_put]; exact h1.keep (upd_ne hne) (Tk.mut mm)) (by dsimp only [IM]; rw [VM_put]; exact h2))
        · refine ⟨false, rfl, ?_⟩
          simp only [cxOf, Cx.nox, L2.start, tRet, tAndV, tOrV, tNotV, tCB, tCons, tNil, tVar, tC, tOp, tUn, tChain, tIfS, tTest, tSeq, tNext, tB, tOr, tAnd, tNot, tAsg, tDrop, tCall, rI0, rI, rU, List.cons_append, List.nil_append, List.append_nil, List.map_cons, List.map_nil, List.length_cons, List.length_nil, Nat.reduceAdd, Nat.reduceSub, List.replicate_succ, List.replicate_zero, List.getElem?_cons_zero, List.getElem?_cons_succ, Option.some.injEq, exists_eq_left, exists_eq_left', exists_eq_right, V.int.injEq, V.bl.injEq, V.str.injEq, V.ref.injEq, true_and, and_true, exists_and_left, if_true, if_false, gTup, gCons, gNil, gSub, gName, Mk.rSetD, List.set_cons_zero, List.set_cons_succ, Bool.false_eq_true, List.cons.injEq, Bool.not_true, Bool.not_false, eq_self, decide_true, decide_false, c3]
          refine look2 e5 hn1 .refl ?_
          simp only [cxOf, Cx.nox, L2.start, tRet, tAndV, tOrV, tNotV, tCB, tCons, tNil, tVar, tC, tOp, tUn, tChain, tIfS, tTest, tSeq, tNext, tB, tOr, tAnd, tNot, tAsg, tDrop, tCall, rI0, rI, rU, List.cons_append, List.nil_append, List.append_nil, List.map_cons, List.map_nil, List.length_cons, List.length_nil, Nat.reduceAdd, Nat.reduceSub, List.replicate_succ, List.replicate_zero, List.getElem?_cons_zero, List.getElem?_cons_succ, Option.some.injEq, exists_eq_left, exists_eq_left', exists_eq_right, V.int.injEq, V.bl.injEq, V.str.injEq, V.ref.injEq, true_and, and_true, exists_and_left, if_true, if_false, gTup, gCons, gNil, gSub, gName, Mk.rSetD, List.set_cons_zero, List.set_cons_succ, Bool.false_eq_true, List.cons.injEq, Bool.not_true, Bool.not_false, eq_self, decide_true, decide_false, c3]
          refine look1 e6 hn1 .refl ?_
          simp only [cxOf, Cx.nox, L2.start, tRet, tAndV, tOrV, tNotV, tCB, tCons, tNil, tVar, tC, tOp, tUn, tChain, tIfS, tTest, tSeq, tNext, tB, tOr, tAnd, tNot, tAsg, tDrop, tCall, rI0, rI, rU, List.cons_append, List.nil_append, List.append_nil, List.map_cons, List.map_nil, List.length_cons, List.length_nil, Nat.reduceAdd, Nat.reduceSub, List.replicate_succ, List.replicate_zero, List.getElem?_cons_zero, List.getElem?_cons_succ, Option.some.injEq, exists_eq_left, exists_eq_left', exists_eq_right, V.int.injEq, V.bl.injEq, V.str.injEq, V.ref.injEq, true_and, and_true, exists_and_left, if_true, if_false, gTup, gCons, gNil, gSub, gName, Mk.rSetD, List.set_cons_zero, List.set_cons_succ, Bool.false_eq_true, List.cons.injEq, Bool.not_true, Bool.not_false, eq_self, decide_true, decide_false, c3]
          by_cases e7 : y + d.2.2 < x
          · simp only [cxOf, Cx.nox, L2.start, tRet, tAndV, tOrV, tNotV, tCB, tCons, tNil, tVar, tC, tOp, tUn, tChain, tIfS, tTest, tSeq, tNext, tB, tOr, tAnd, tNot, tAsg, tDrop, tCall, rI0, rI, rU, List.cons_append, List.nil_append, List.append_nil, List.map_cons, List.map_nil, List.length_cons, List.length_nil, Nat.reduceAdd, Nat.reduceSub, List.replicate_succ, List.replicate_zero, List.getElem?_cons_zero, List.getElem?_cons_succ, Option.some.injEq, exists_eq_left, exists_eq_left', exists_eq_right, V.int.injEq, V.bl.injEq, V.str.injEq, V.ref.injEq, true_and, and_true, exists_and_left, if_true, if_false, gTup, gCons, gNil, gSub, gName, Mk.rSetD, List.set_cons_zero, List.set_cons_succ, Bool.false_eq_true, List.cons.injEq, Bool.not_true, Bool.not_false, eq_self, decide_true, decide_false, c3, e7]
            refine look2 e5 hn1 .refl ?_
            simp only [cxOf, Cx.nox, L2.start, tRet, tAndV, tOrV, tNotV, tCB, tCons, tNil, tVar, tC, tOp, tUn, tChain, tIfS, tTest, tSeq, tNext, tB, tOr, tAnd, tNot, tAsg, tDrop, tCall, rI0, rI, rU, List.cons_append, List.nil_append, List.append_nil, List.map_cons, List.map_nil, List.length_cons, List.length_nil, Nat.reduceAdd, Nat.reduceSub, List.replicate_succ, List.replicate_zero, List.getElem?_cons_zero, List.getElem?_cons_succ, Option.some.injEq, exists_eq_left, exists_eq_left', exists_eq_right, V.int.injEq, V.bl.injEq, V.str.injEq, V.ref.injEq, true_and, and_true, exists_and_left, if_true, if_false, gTup, gCons, gNil, gSub, gName, Mk.rSetD, List.set_cons_zero, List.set_cons_succ, Bool.false_eq_true, List.cons.injEq, Bool.not_true, Bool.not_false, eq_self, decide_true, decide_false, c3]
            refine ⟨_, hn1, d.1, k1, l1, fun u h1 => ⟨_, hs1.keep (upd_ne hne.symm) (Tk.mut mn2), d.1, k1.keep (Tk.mut mn2), l2, fun u2 h2 => ?_⟩⟩
            have mm := (hs1.keep (H' := upd H2 dn u) (upd_ne hne.symm) (Tk.mut mn2)).mut
            exact hx (hq _ _ (stepM_lt e5 e6 e7) (Gx2.set1.trans .set2) (by dsimp only [IM]; rw [VM_put]; exact h1.keep (upd_ne hne) (Tk.mut mm)) (by dsimp only [IM]; rw [VM_put]; exact h2))
          · simp only [cxOf, Cx.nox, L2.start, tRet, tAndV, tOrV, tNotV, tCB, tCons, tNil, tVar, tC, tOp, tUn, tChain, tIfS, tTest, tSeq, tNext, tB, tOr, tAnd, tNot, tAsg, tDrop, tCall, rI0, rI, rU, List.cons_append, List.nil_append, List.append_nil, List.map_cons, List.map_nil, List.length_cons, List.length_nil, Nat.reduceAdd, Nat.reduceSub, List.replicate_succ, List.replicate_zero, List.getElem?_cons_zero, List.getElem?_cons_succ, Option.some.injEq, exists_eq_left, exists_eq_left', exists_eq_right, V.int.injEq, V.bl.injEq, V.str.injEq, V.ref.injEq, true_and, and_true, exists_and_left, if_true, if_false, gTup, gCons, gNil, gSub, gName, Mk.rSetD, List.set_cons_zero, List.set_cons_succ, Bool.false_eq_true, List.cons.injEq, Bool.not_true, Bool.not_false, eq_self, decide_true, decide_false, c3, e7]
            exact hx (hq _ _ (stepM_ge e5 e6 e7) .refl hn1 hs1)
    · obtain ⟨x4, x5, x6, x7, x8, rfl, g, hn, hs⟩ := hP
      rw [show vs.length = ds.length from (Paired.length hv).symm, List.take_length] at *
      simp only [cxOf, Cx.nox, L2.start, tRet, tAndV, tOrV, tNotV, tCB, tCons, tNil, tVar, tC, tOp, tUn, tChain, tIfS, tTest, tSeq, tNext, tB, tOr, tAnd, tNot, tAsg, tDrop, tCall, rI0, rI, rU, List.cons_append, List.nil_append, List.append_nil, List.map_cons, List.map_nil, List.length_cons, List.length_nil, Nat.reduceAdd, Nat.reduceSub, List.replicate_succ, List.replicate_zero, List.getElem?_cons_zero, List.getElem?_cons_succ, Option.some.injEq, exists_eq_left, exists_eq_left', exists_eq_right, V.int.injEq, V.bl.injEq, V.str.injEq, V.ref.injEq, true_and, and_true, exists_and_left, if_true, if_false, gTup, gCons, gNil, gSub, gName, Mk.rSetD, List.set_cons_zero, List.set_cons_succ, Bool.false_eq_true, List.cons.injEq, Bool.not_true, Bool.not_false, eq_self, decide_true, decide_false, c3]
      exact q _ g hn hs
theorem nodup_len {α : Type} [DecidableEq α] : ∀ {l r : List α}, l.Nodup → (∀ x ∈ l, x ∈ r) → l.length ≤ r.length
  | [], _, _, _ => Nat.zero_le _
  | a :: l, r, h, hs => by
    obtain ⟨h1, h2⟩ := List.nodup_cons.mp h
    have ha := hs a List.mem_cons_self
    have := nodup_len (r := r.erase a) h2 fun x hx => (List.mem_erase_of_ne (fun e => h1 (by rw [← e]; exact hx))).mpr (hs x (List.mem_cons_of_mem _ hx))
    rw [List.length_erase_of_mem ha] at this
    have := List.length_pos_of_mem ha
    rw [List.length_cons]; omega
theorem allPts_len : ∀ {ds : List Dif}, (allPts ds).length = 2 * ds.length + 1
  | [] => rfl
  | d :: ds => by
    have := allPts_len (ds := ds)
    rw [allPts, List.length_cons] at *
    rw [List.flatMap_cons, List.length_append, List.length_cons, List.length_cons, List.length_cons, List.length_nil]
    omega
theorem GxB.dicW {d : Addr} {H H' : Hp} {kvs : List (PK × V)} {k : Addr} (g : GxB k H H') (m : Mut (H k)) (n : d ≠ k) (h : DicW P w K H d kvs) : DicW P w K H' d kvs :=
  let ⟨xs, a, b⟩ := h
  ⟨xs, g _ _ n a, b.keep (g.tkM m)⟩
/-- rounds of improved, at most k -/
def settledM (ds : List Dif) : Nat → Num → Num → Num × Num × Bool
  | 0, N, S => (N, S, true)
  | k + 1, N, S => if (improvedM ds N S).2.2 = true then settledM ds k (improvedM ds N S).1 (improvedM ds N S).2.1 else ((improvedM ds N S).1, (improvedM ds N S).2.1, false)
def spSet (P : Program) (w : World) (K : PySem.W.Frag) : Sp := fun vs H Q _ => ∃ v dn ds N, vs = [v, .ref dn] ∧ DsV K H ds v ∧ GoodDs ds ∧ DicW P w K H dn (IM N) ∧ N.length ≤ 1000 ∧
  ∀ H' p dt ks, GxB dn H H' → H p = none → H dt = none → SqT K H' p [.ref dt, .bl (settledM ds (ks.length + N.length + 1) N []).2.2] → PtsOf ds ks → DicW P w K H' dn (IM (settledM ds (ks.length + N.length + 1) N []).1) →
    DicW P w K H' dt (IM (settledM ds (ks.length + N.length + 1) N []).2.1) → Q (.ref p) H'
theorem C_settled (T : Tops mg) (D : Def K mg "settled" s_settled ["differences", "numbers"]) (C_points_of : Cal P w K mg base "points_of" 1 ["differences"] (spPts K)) (C_improved : Cal P w K mg base "improved" 1 ["differences", "numbers", "steps"] (spImp P w K)) : Cal P w K mg base "settled" 2 ["differences", "numbers"] (spSet P w K) := by
  refine Cal.of D sc_settled (fun vs H Q E h => ?_) (fun f cdv A outer s H vs Q E hr h => ?_)
  · obtain ⟨v, dn, ds, N, rfl, _⟩ := h; rfl
  · obtain ⟨v, dn, ds, N, rfl, hv, hg, hN, lN, q⟩ := h
    have hu := hu_of hr
    have h0 := hr.units0
    refine ⟨_, (pss_cons (ps_par rfl sc_settled.nd (i := 2) (j := 3) rfl rfl (by decide) rfl rfl (pa_cons (pe_toP pe_dnewK) (pa_cons (pe_cal C_points_of hr (by decide) (by rfl) (pa_cons (pv 0) pa_nil)) pa_nil)) (by rfl))
      (pss_cons (ps_for PassesOwn.never rfl (pi_range1 (by rfl) T.b_range (pa_cons (pe_op op_add (pe_op op_add (pe_callB call_len_seq (by rfl) T.b_len (by decide +kernel) (pa_cons (pv 3) pa_nil)) (pe_callB call_lenD (by rfl) T.b_len (by decide +kernel) (pa_cons (pv 1) pa_nil))) pe_int) pa_nil)) (pg_name (i := 4) sc_settled.nd rfl (Or.inl rfl))
      (pss_one (ps_if (pt_not (pt_val (pe_cal C_improved hr (by decide) (by rfl) (pa_cons (pv 0) (pa_cons (pv 1) (pa_cons (pv 2) pa_nil)))))) (pss_one (ps_ret (pe_tup (pa_cons (pv 2) (pa_cons pe_bl pa_nil))))) pss_nil)))
      (pss_one (ps_ret (pe_tup (pa_cons (pv 2) (pa_cons pe_bl pa_nil))))))), ?_⟩
    simp only [cxOf, Cx.nox, L2.start, tRet, tAndV, tOrV, tNotV, tCB, tCons, tNil, tVar, tC, tOp, tUn, tChain, tIfS, tTest, tSeq, tNext, tB, tOr, tAnd, tNot, tAsg, tDrop, tCall, rI0, rI, rU, List.cons_append, List.nil_append, List.append_nil, List.map_cons, List.map_nil, List.length_cons, List.length_nil, Nat.reduceAdd, Nat.reduceSub, List.replicate_succ, List.replicate_zero, List.getElem?_cons_zero, List.getElem?_cons_succ, Option.some.injEq, exists_eq_left, exists_eq_left', exists_eq_right, V.int.injEq, V.bl.injEq, V.str.injEq, V.ref.injEq, true_and, and_true, exists_and_left, if_true, if_false, gTup, gCons, gNil, gSub, gName, Mk.rSetD, List.set_cons_zero, List.set_cons_succ, Bool.false_eq_true, List.cons.injEq, Bool.not_true, Bool.not_false, eq_self, decide_true, decide_false, c3, N_settled, tPar, tToP]
    intro dt hdt
    refine ⟨dt, rfl, [], upd_same, fun u hdt0 => ?_⟩
    rw [upd_upd] at hdt0 ⊢
    have g1 : Gx H (upd H dt u) := .new hdt
    have mN := hN.mut
    have hne : dn ≠ dt := hN.ne_none hdt
    refine ⟨v, ds, rfl, hv.keep g1.tk, hg, fun H1 pp ks g2 hpp plv pts => ?_⟩
    have g3 := g1.trans g2
    have lks : ks.length ≤ 121 := by
      refine Nat.le_trans (nodup_len pts.1 (fun k hk => (pts.2 k).mp hk)) ?_
      have := hg.1
      rw [allPts_len]
      omega
    refine ⟨_, _, ⟨rfl, rfl⟩, ?_⟩
    obtain ⟨pxs, hpx, hpr⟩ := plv
    have lpx : pxs.length = ks.length := (Paired.length hpr).symm
    have mt : (↑pxs.length + ↑(IM N).length + 1 : Int) = ((ks.length + N.length + 1 : Nat) : Int) := by rw [VM_len, lpx]; simp
    refine ⟨_, rfl, pp, rfl, pxs, .inl (.inl (.inl hpx)), _, rfl, dn, _, rfl, (g3.dicW hN).r, _, _, rfl, rfl, _, _, rfl, rfl, _, rfl, ?_, ?_, ?_⟩
    · rw [mt]; omega
    · rw [mt]; have : ks.length + N.length + 1 ≤ 2000 := by omega
      omega
    rw [mt, Int.toNat_natCast]
    generalize hn : ks.length + N.length + 1 = n at *
    have ln : n ≤ 2000 := by omega
    refine for_it walk_range (fun i σ H' => ∃ x4 Ni Si, σ = [some v, some (.ref dn), some (.ref dt), some (.ref pp), x4] ∧ GxB dn H H' ∧ DicW P w K H' dn (IM Ni) ∧ DicW P w K H' dt (IM Si) ∧ Ni.length ≤ 1000 + 60 * i ∧ Si.length ≤ 60 * i ∧ settledM ds n N [] = settledM ds (n - i) Ni Si)
      ⟨_, N, [], rfl, g3.but, g3.dicW hN, g2.dicW hdt0, by omega, Nat.zero_le _, rfl⟩ (fun _ _ _ _ _ => trivial) (fun i x σ H2 H3 hi hP hY => ?_) (fun σ H2 hP => ?_)
    · obtain ⟨rfl, rfl⟩ := hY
      obtain ⟨x4, Ni, Si, rfl, g, hn1, hs1, l1, l2, e⟩ := hP
      simp only [cxOf, Cx.nox, L2.start, tRet, tAndV, tOrV, tNotV, tCB, tCons, tNil, tVar, tC, tOp, tUn, tChain, tIfS, tTest, tSeq, tNext, tB, tOr, tAnd, tNot, tAsg, tDrop, tCall, rI0, rI, rU, List.cons_append, List.nil_append, List.append_nil, List.map_cons, List.map_nil, List.length_cons, List.length_nil, Nat.reduceAdd, Nat.reduceSub, List.replicate_succ, List.replicate_zero, List.getElem?_cons_zero, List.getElem?_cons_succ, Option.some.injEq, exists_eq_left, exists_eq_left', exists_eq_right, V.int.injEq, V.bl.injEq, V.str.injEq, V.ref.injEq, true_and, and_true, exists_and_left, if_true, if_false, gTup, gCons, gNil, gSub, gName, Mk.rSetD, List.set_cons_zero, List.set_cons_succ, Bool.false_eq_true, List.cons.injEq, Bool.not_true, Bool.not_false, eq_self, decide_true, decide_false, c3]
      have ll := roundM_len (Ni, Si, false) 0 ds
      have hl := hg.1
      refine ⟨v, dn, dt, ds, Ni, Si, rfl, hv.keep (g.tkM mN), hg.1, hne, hn1, hs1, by omega, by omega, fun H4 g4 hn4 hs4 => ?_⟩
      have gg : GxB dn H H4 := fun a o n1 h => g4 a o n1 (fun z => by subst z; rw [hdt] at h; cases h) (g a o n1 h)
      have en : n - i = (n - (i + 1)) + 1 := by omega
      rw [en, settledM] at e
      dsimp only at ll
      have ll1 : (improvedM ds Ni Si).1.length ≤ Ni.length + ds.length := ll.1
      have ll2 : (improvedM ds Ni Si).2.1.length ≤ Si.length + ds.length := ll.2
      rcases hb : (improvedM ds Ni Si).2.2 with _ | _
      · rw [hb] at e
        refine ⟨false, rfl, ?_⟩
        simp only [cxOf, Cx.nox, L2.start, tRet, tAndV, tOrV, tNotV, tCB, tCons, tNil, tVar, tC, tOp, tUn, tChain, tIfS, tTest, tSeq, tNext, tB, tOr, tAnd, tNot, tAsg, tDrop, tCall, rI0, rI, rU, List.cons_append, List.nil_append, List.append_nil, List.map_cons, List.map_nil, List.length_cons, List.length_nil, Nat.reduceAdd, Nat.reduceSub, List.replicate_succ, List.replicate_zero, List.getElem?_cons_zero, List.getElem?_cons_succ, Option.some.injEq, exists_eq_left, exists_eq_left', exists_eq_right, V.int.injEq, V.bl.injEq, V.str.injEq, V.ref.injEq, true_and, and_true, exists_and_left, if_true, if_false, gTup, gCons, gNil, gSub, gName, Mk.rSetD, List.set_cons_zero, List.set_cons_succ, Bool.false_eq_true, List.cons.injEq, Bool.not_true, Bool.not_false, eq_self, decide_true, decide_false, c3, tTup]
        refine ⟨by decide, fun p hp => ?_⟩
        rw [if_neg Bool.false_ne_true] at e
        have hpn : H p = none := by
          rcases hh : H p with _ | o
          · rfl
          · have : p ≠ dn := fun z => by rw [z] at hp; have := hn4.mut; rw [hp] at this; exact this.elim
            rw [gg p o this hh] at hp; cases hp
        have gn : Gx H4 (upd H4 p (.tup [.ref dt, .bl false])) := .new hp
        refine q _ p dt ks (gg.trans gn.but) hpn hdt ?_ pts ?_ ?_
        · rw [hn, e]; exact .inl (.inl upd_same)
        · rw [hn, e]; exact gn.dicW hn4
        · rw [hn, e]; exact gn.dicW hs4
      · rw [hb, if_pos rfl] at e
        refine ⟨true, rfl, ?_⟩
        simp only [cxOf, Cx.nox, L2.start, tRet, tAndV, tOrV, tNotV, tCB, tCons, tNil, tVar, tC, tOp, tUn, tChain, tIfS, tTest, tSeq, tNext, tB, tOr, tAnd, tNot, tAsg, tDrop, tCall, rI0, rI, rU, List.cons_append, List.nil_append, List.append_nil, List.map_cons, List.map_nil, List.length_cons, List.length_nil, Nat.reduceAdd, Nat.reduceSub, List.replicate_succ, List.replicate_zero, List.getElem?_cons_zero, List.getElem?_cons_succ, Option.some.injEq, exists_eq_left, exists_eq_left', exists_eq_right, V.int.injEq, V.bl.injEq, V.str.injEq, V.ref.injEq, true_and, and_true, exists_and_left, if_true, if_false, gTup, gCons, gNil, gSub, gName, Mk.rSetD, List.set_cons_zero, List.set_cons_succ, Bool.false_eq_true, List.cons.injEq, Bool.not_true, Bool.not_false, eq_self, decide_true, decide_false, c3]
        exact ⟨gg, _, hn4, _, hs4, by omega, by omega, e⟩
    · obtain ⟨x4, Ni, Si, rfl, g, hn1, hs1, l1, l2, e⟩ := hP
      simp only [cxOf, Cx.nox, L2.start, tRet, tAndV, tOrV, tNotV, tCB, tCons, tNil, tVar, tC, tOp, tUn, tChain, tIfS, tTest, tSeq, tNext, tB, tOr, tAnd, tNot, tAsg, tDrop, tCall, rI0, rI, rU, List.cons_append, List.nil_append, List.append_nil, List.map_cons, List.map_nil, List.length_cons, List.length_nil, Nat.reduceAdd, Nat.reduceSub, List.replicate_succ, List.replicate_zero, List.getElem?_cons_zero, List.getElem?_cons_succ, Option.some.injEq, exists_eq_left, exists_eq_left', exists_eq_right, V.int.injEq, V.bl.injEq, V.str.injEq, V.ref.injEq, true_and, and_true, exists_and_left, if_true, if_false, gTup, gCons, gNil, gSub, gName, Mk.rSetD, List.set_cons_zero, List.set_cons_succ, Bool.false_eq_true, List.cons.injEq, Bool.not_true, Bool.not_false, eq_self, decide_true, decide_false, c3, tTup]
      refine ⟨by decide, fun p hp => ?_⟩
      rw [Nat.sub_self, settledM] at e
      have hpn : H p = none := by
        rcases hh : H p with _ | o
        · rfl
        · have : p ≠ dn := fun z => by rw [z] at hp; have := hn1.mut; rw [hp] at this; exact this.elim
          rw [g p o this hh] at hp; cases hp
      have gn : Gx H2 (upd H2 p (.tup [.ref dt, .bl true])) := .new hp
      refine q _ p dt ks (g.trans gn.but) hpn hdt ?_ pts ?_ ?_
      · rw [hn, e]; exact .inl (.inl upd_same)
      · rw [hn, e]; exact gn.dicW hn1
      · rw [hn, e]; exact gn.dicW hs1
end
end Mk


set_option Elab.async false
set_option linter.all false
set_option maxRecDepth 100000
set_option maxHeartbeats 400000
/-! points as data: equality, shape -/
namespace Mk
open PySem PySem.Spec PyProof.Rows L2
theorem eqv_key (a b : Key) : PyData.eqv (keyD a) (keyD b) = decide (a = b) := by
  rcases a with i | x <;> rcases b with j | y
  · by_cases h : i = j <;> simp [keyD, PyData.eqv, h]
  · simp [keyD, PyData.eqv]
  · simp [keyD, PyData.eqv]
  · by_cases h : x = y <;> simp [keyD, PyData.eqv, h]
theorem eqv_keys : ∀ a b : List Key, PyData.eqvAll (a.map keyD) (b.map keyD) = decide (a = b)
  | [], [] => by simp [PyData.eqvAll]
  | [], b :: bs => by simp [PyData.eqvAll]
  | a :: as, [] => by simp [PyData.eqvAll]
  | a :: as, b :: bs => by
    rw [List.map_cons, List.map_cons, PyData.eqvAll, eqv_key, eqv_keys as bs]
    by_cases h : a = b <;> by_cases k : as = bs <;> simp [h, k]
theorem eqv_pt (a b : PK) : PyData.eqv (ptD a) (ptD b) = decide (a = b) := by
  rcases a with i | x <;> rcases b with j | y
  · have := eqv_key i j
    simpa [ptD] using this
  · rcases i with i | i <;> simp [ptD, keyD, PyData.eqv]
  · rcases j with j | j <;> simp [ptD, keyD, PyData.eqv]
  · have := eqv_keys x y
    simpa [ptD, PyData.eqv] using this
theorem letter_ok {c : Nat} (h : letterB c = true) : c < 0x110000 := by
  have : ∀ c ∈ ("abcdefghijklmnopqrstuvwxyz" : Str).cps.toList, c < 0x110000 := by decide
  exact this c (of_decide_eq_true h)
theorem digit_ok {c : Nat} (h : digitB c = true) : c < 0x110000 := by
  have : ∀ c ∈ ("0123456789" : Str).cps.toList, c < 0x110000 := by decide
  exact this c (of_decide_eq_true h)
theorem strOk_of {z : Str} (h : ∀ c ∈ z.cps.toList, c < 0x110000) : PyData.strOk z = true := by
  unfold PyData.strOk
  rw [Array.all_eq_true']
  intro c hc
  simpa using h c (by simpa using hc)
theorem nameB_ok {z : Str} (h : nameB z = true) : PyData.strOk z = true := by
  unfold nameB at h
  rw [Bool.and_eq_true, List.all_eq_true] at h
  exact strOk_of fun c hc => letter_ok (h.2 c hc)
theorem newB_ok {z : Str} (h : newB z = true) : PyData.strOk z = true := by
  unfold newB at h
  split at h
  · rename_i c d r hz
    rw [Bool.and_eq_true, Bool.and_eq_true, List.all_eq_true] at h
    refine strOk_of fun x hx => ?_
    rw [hz] at hx
    rcases List.mem_cons.mp hx with rfl | hx
    · rw [of_decide_eq_true h.1.1]; decide
    · exact digit_ok (h.2 x hx)
  · cases h
theorem placeB_ok {z : Str} (h : placeB z = true) : PyData.strOk z = true := by
  unfold placeB at h
  rw [Bool.or_eq_true, Bool.or_eq_true] at h
  rcases h with (h | h) | h
  · rw [of_decide_eq_true h]; exact strOk_of (by decide)
  · exact nameB_ok h
  · exact newB_ok h
theorem canLay_pt {k : PK} (h : GoodP k) : (ptD k).canLay0 = true ∧ (ptD k).depth ≤ 1 := by
  rcases h.cases with ⟨z, rfl, _, hz⟩ | ⟨a, b, c, rfl, _, ha, _, hb, _⟩
  · refine ⟨?_, Nat.zero_le _⟩
    rw [ptD, keyD, PyData.canLay0]; exact placeB_ok hz
  · refine ⟨?_, Nat.le_refl _⟩
    rw [ptD, PyData.canLay0]
    simp [keyD, PyData.canLayAll0, PyData.canLay0, nameB_ok ha, placeB_ok hb]
theorem shaped_pt {k : PK} (h : GoodP k) : SeqAt.shaped (ptD k) = true := by
  obtain ⟨a, b⟩ := canLay_pt h
  unfold SeqAt.shaped
  rw [a, Bool.true_and]
  exact decide_eq_true (by omega)
theorem shaped_pts {ks : List PK} (h : ∀ k ∈ ks, GoodP k) : SeqAt.shaped (.list (ks.map ptD)) = true := by
  have e : PyData.canLayAll0 (ks.map ptD) = true ∧ PyData.depthAll (ks.map ptD) ≤ 1 := by
    induction ks with
    | nil => exact ⟨rfl, Nat.zero_le _⟩
    | cons k ks ih =>
      obtain ⟨a, b⟩ := canLay_pt (h k List.mem_cons_self)
      obtain ⟨c, d⟩ := ih fun x hx => h x (List.mem_cons_of_mem _ hx)
      refine ⟨?_, ?_⟩
      · rw [List.map_cons, PyData.canLayAll0, a, c]; rfl
      · rw [List.map_cons, PyData.depthAll]; omega
  unfold SeqAt.shaped
  rw [PyData.canLay0, e.1, PyData.depth, Bool.true_and]
  exact decide_eq_true (by omega)
theorem dpAll_pts {K : PySem.W.Frag} {H : Hp} {ks : List PK} {xs : List V} (h : Paired (KyV K H) ks xs) : DpAll K H xs (ks.map ptD) := by
  induction h with
  | nil => exact .nil
  | cons r _ ih => exact .cons r.dp ih
end Mk


set_option Elab.async false
set_option linter.all false
set_option maxRecDepth 100000
set_option maxHeartbeats 400000
/-! repr of data, and of the dicts with points as keys -/
namespace Mk
open PySem PySem.Spec PyProof.Rows L2
mutual
def flatD : PyData → Bool
  | .list _ => false
  | .dict _ => false
  | .tuple xs => flatDs xs
  | .none => true
  | .bool _ => true
  | .int _ => true
  | .str _ => true
def flatDs : List PyData → Bool
  | [] => true
  | x :: xs => flatD x && flatDs xs
end
mutual
theorem flat_as {h : Heap} : ∀ {v : Value} {d : PyData} {as : List Addr}, Reads h v d as → flatD d = true → as = []
  | _, _, _, .none, _ => rfl
  | _, _, _, .bool _, _ => rfl
  | _, _, _, .int _ _, _ => rfl
  | _, _, _, .str _ _, _ => rfl
  | _, _, _, .list _ _ _ _, f => by rw [flatD] at f; cases f
  | _, _, _, .dict _ _ _ _ _, f => by rw [flatD] at f; cases f
  | _, _, _, .tuple _ _ _ r, f => by rw [flatD] at f; exact flat_ass r f
theorem flat_ass {h : Heap} : ∀ {vs : List Value} {ds : List PyData} {as : List Addr}, ReadsAll h vs ds as → flatDs ds = true → as = []
  | _, _, _, .nil, _ => rfl
  | _, _, _, .cons r t, f => by
    rw [flatDs, Bool.and_eq_true] at f
    rw [flat_as r f.1, flat_ass t f.2]; rfl
end
theorem flat_pt (k : PK) : flatD (ptD k) = true := by
  have e : ∀ l : List Key, flatDs (l.map keyD) = true := fun l => by
    induction l with
    | nil => rw [List.map_nil, flatDs]
    | cons x l ih => rw [List.map_cons, flatDs, ih]; rcases x with x | x <;> rw [keyD, flatD] <;> rfl
  rcases k with k | l
  · rcases k with x | x <;> rw [ptD, keyD, flatD]
  · rw [ptD, flatD]; exact e l
mutual
theorem no_dict : ∀ d : PyData, flatD d = true → d.hasDict = false
  | .none, _ => by rw [PyData.hasDict]
  | .bool _, _ => by rw [PyData.hasDict]
  | .int _, _ => by rw [PyData.hasDict]
  | .str _, _ => by rw [PyData.hasDict]
  | .list _, f => by rw [flatD] at f; cases f
  | .dict _, f => by rw [flatD] at f; cases f
  | .tuple xs, f => by rw [PyData.hasDict]; rw [flatD] at f; exact no_dicts xs f
theorem no_dicts : ∀ ds : List PyData, flatDs ds = true → PyData.hasDictAll ds = false
  | [], _ => by rw [PyData.hasDictAll]
  | d :: ds, f => by
    rw [flatDs, Bool.and_eq_true] at f
    rw [PyData.hasDictAll, no_dict d f.1, no_dicts ds f.2]; rfl
end
/-- a value of such a dict, as data -/
inductive DVal (P : Program) (w : World) (K : PySem.W.Frag) (H : Hp) : V → PyData → Prop
  | flat {v : V} {d : PyData} : Dp K H v d → flatD d = true → DVal P w K H v d
  | nil {a : Addr} : SqL K H a [] → a ≠ sysModules → DVal P w K H (.ref a) (.list [])
  | emp {a : Addr} : DicR P w K H a [] → DVal P w K H (.ref a) (.dict [])
section
variable {X : Cx} {pins : List (Addr × Obj)} {σ : L2.St} {H : Hp} {s : Shared}
theorem dval_reads (I : L2.Inv X pins σ H s) {v : V} {d : PyData} {u : Value} (h : DVal X.prog X.w X.K H v d) (r : L2.RelV v u) : ∃ as, Reads s.heap u d as ∧ sysModules ∉ as := by
  cases h with
  | flat h f =>
    obtain ⟨as, q⟩ := Dp.reads I _ _ _ h r
    rw [flat_as q f] at q
    exact ⟨[], q, by simp⟩
  | nil h n =>
    obtain rfl : u = Value.ref _ := r
    obtain ⟨its, rv, pl, _⟩ := I.list h
    cases rv
    obtain ⟨o, m, e, c, hd, dd⟩ := pl
    exact ⟨_, .list e c dd .nil, by simp [Ne.symm n]⟩
  | emp h =>
    obtain rfl : u = Value.ref _ := r
    obtain ⟨xs, hm, pr, _, hb⟩ := dic_of I h
    cases pr
    obtain ⟨o, es, ep, e, c, dd, he, _⟩ := hm
    refine ⟨_, .dict (kvs := []) e c.1 dd (by rw [he]; exact .nil) (by rw [he]; exact .nil), ?_⟩
    rw [beq_eq_false_iff_ne] at hb
    simp [Ne.symm hb]
theorem dic_reads (I : L2.Inv X pins σ H s) {a : Addr} {kvs : List (PK × V)} {ds : List PyData} (h : DicR X.prog X.w X.K H a kvs) (hv : Paired (fun (kv : PK × V) (d : PyData) => DVal X.prog X.w X.K H kv.2 d) kvs ds) :
    ∃ as, Reads s.heap (.ref a) (.dict ((kvs.map fun kv => ptD kv.1).zip ds)) as ∧ sysModules ∉ as := by
  obtain ⟨xs, ⟨o, es, ep, e, c, dd, he, _⟩, pr, _, hb⟩ := dic_of I h
  have key : ∀ {kvs : List (PK × V)} {xs : List En}, PairE X.K H kvs xs → ∃ as, ReadsAll s.heap (xs.map (·.2.1)) (kvs.map fun kv => ptD kv.1) as ∧ sysModules ∉ as := by
    intro kvs xs pr
    induction pr with
    | nil => exact ⟨[], .nil, by simp⟩
    | cons hp t ih =>
      obtain ⟨_, _, y, ry, ky⟩ := hp
      obtain ⟨as, q, n⟩ := ih
      obtain ⟨bs, q1⟩ := Dp.reads I _ _ _ ky.dp ry
      rw [flat_as q1 (flat_pt _)] at q1
      exact ⟨[] ++ as, .cons q1 q, by simpa using n⟩
  have val : ∀ {kvs : List (PK × V)} {xs : List En} {ds : List PyData}, PairE X.K H kvs xs → Paired (fun (kv : PK × V) (d : PyData) => DVal X.prog X.w X.K H kv.2 d) kvs ds → ∃ as, ReadsAll s.heap (xs.map (·.2.2)) ds as ∧ sysModules ∉ as := by
    intro kvs xs ds pr
    induction pr generalizing ds with
    | nil => intro h; cases h; exact ⟨[], .nil, by simp⟩
    | cons hp t ih =>
      intro h
      cases h with
      | cons h1 h2 =>
        obtain ⟨_, rv, _⟩ := hp
        obtain ⟨as, q, n⟩ := ih h2
        obtain ⟨bs, q1, n1⟩ := dval_reads I h1 rv
        exact ⟨bs ++ as, .cons q1 q, by simp [n, n1]⟩
  obtain ⟨as, q1, n1⟩ := key pr
  obtain ⟨bs, q2, n2⟩ := val pr hv
  have l : (kvs.map fun kv => ptD kv.1).length = ds.length := by rw [List.length_map]; exact Paired.length hv
  refine ⟨_, .dict (as := as) (bs := bs) e c.1 dd ?_ ?_, ?_⟩
  · rw [he, List.map_map, List.map_fst_zip (by omega)]; exact q1
  · rw [he, List.map_map, List.map_snd_zip (by omega)]; exact q2
  · rw [beq_eq_false_iff_ne] at hb
    simp [Ne.symm hb, n1, n2]
end
end Mk


set_option Elab.async false
set_option linter.all false
set_option maxRecDepth 100000
set_option maxHeartbeats 400000
/-! the call of repr -/
namespace Mk
open PySem PySem.Spec PyProof.Rows L2
/-- x is the data d: lists, tuples, scalars; or a dict with points as keys -/
def ShV (P : Program) (w : World) (K : PySem.W.Frag) (H : Hp) (x : V) (d : PyData) : Prop :=
  (Dp K H x d ∧ d.hasDict = false) ∨ ∃ a kvs ds, x = .ref a ∧ DicR P w K H a kvs ∧ Paired (fun (kv : PK × V) (e : PyData) => DVal P w K H kv.2 e) kvs ds ∧ d = .dict ((kvs.map fun kv => ptD kv.1).zip ds)
def rReprP (P : Program) (w : World) (K : PySem.W.Frag) : List V → Hp → VK → Prop := fun xs H Q => ∃ x d, xs = [x] ∧ ShV P w K H x d ∧ d.showable = true ∧ d.depth ≤ 8 ∧ d.shown.length ≤ sizeLine ∧ Q (.str d.shown) H
theorem call_reprP {X : Cx} (hG : X.A.guards = some []) (hu : X.A.units + 20 < cLine) : CallR X (.builtin "repr") (rReprP X.prog X.w X.K) := by
  intro pins s σ H xs us Q I r ⟨x, d, e, sh, hs, hd, hz, q⟩
  subst e
  obtain ⟨u, eu, rx⟩ := vals1 r
  subst eu
  obtain ⟨as, rd, nm⟩ : ∃ as, Reads s.heap u d as ∧ (d.hasDict = true → sysModules ∉ as) := by
    rcases sh with ⟨h, hn⟩ | ⟨a, kvs, ds, ex, hk, hv, ed⟩
    · obtain ⟨as, rd⟩ := Dp.reads I _ _ _ h rx
      exact ⟨as, rd, fun z => by rw [hn] at z; cases z⟩
    · subst ex ed
      obtain rfl : u = Value.ref a := rx
      obtain ⟨as, rd, n⟩ := dic_reads I hk hv
      exact ⟨as, rd, fun _ => n⟩
  have fin : ∀ (h' : Heap) (t tk : Nat), (∀ b o, s.heap.get? b = some o → h'.get? b = some o) → EP X pins σ Q (.str d.shown t) { s with heap := h', toks := tk } := fun h' t tk hk =>
    ⟨.str d.shown, H, I.turnedL (ch := []) (fun b o _ e => hk b o e) (fun b hb => by cases hb), ⟨t, rfl⟩, q⟩
  have fin0 : ∀ (t tk : Nat), EP X pins σ Q (.str d.shown t) { s with toks := tk } := fun t tk => fin s.heap t tk fun _ _ e => e
  cases rd with
  | none => exact PySem.P.repr_of_none (by simpa only [PyData.shown] using fin0 _ _)
  | bool b => exact PySem.P.repr_of_bool (by simpa only [PyData.shown] using fin0 _ _)
  | int i t => exact PySem.P.repr_of_int (by simpa [PyData.showable] using hs) (by simpa only [PyData.shown] using fin0 _ _)
  | str y t => exact PySem.P.repr_of_str (by simpa only [PyData.shown] using fin0 _ _) (by simpa only [PyData.shown] using hz)
  | list h1 h2 h3 h4 => exact repr_of_reads' (.list h1 h2 h3 h4) hs nm hG (by omega) (fun _ _ e => e) (fun h' u tk hk => fin h' u tk hk) hz
  | tuple h1 h2 h3 h4 => exact repr_of_reads' (.tuple h1 h2 h3 h4) hs nm hG (by omega) (fun _ _ e => e) (fun h' u tk hk => fin h' u tk hk) hz
  | dict h1 h2 h3 h4 h5 => exact repr_of_reads' (.dict h1 h2 h3 h4 h5) hs nm hG (by omega) (fun _ _ e => e) (fun h' u tk hk => fin h' u tk hk) hz
end Mk


set_option Elab.async false
set_option linter.all false
set_option maxRecDepth 100000
set_option maxHeartbeats 400000
/-! d.get(k, x) of dicts of points; () * n -/
namespace Mk
open PySem PySem.Spec PyProof.Rows L2
section
variable {P : Program} {w : World} {A : Around} {E : Value → Shared → Prop} {s : Shared} {d : Addr} {k : PK} {key r : Value} {xs : List En}
theorem dget2_P {Q : Value → Shared → Prop} (hu : A.units + 1 < cLine) (hk : isP P w s.heap k key) (hb : (d == sysModules) = false) (hm : DOf P w s.heap d xs)
    (hq : Q ((lookE xs k).getD r) { s with toks := s.toks + drawsP k }) : wpAny (model P w) A (call (.builtin "dict.get") [.ref d, key, r]) Q E s := by
  have M : MeetsIn P w (Builtin.«dict.get» ⟨[.ref d, key, r], []⟩) (fun A R s => A.units + 1 < cLine ∧ ∃ k xs, isP P w s.heap k key ∧ DOf P w s.heap d xs ∧ R (.ok (.ret ((lookE xs k).getD r))) { s with toks := s.toks + drawsP k }) :=
    .of_wp fun A R s ⟨hu, k, xs, hk, hm, h⟩ => by
      show wpAny _ _ (dictGet d key >>= _) _ _ s
      refine wpAny_bind (get_P hu hk hm ?_)
      cases q : lookE xs k with
      | some v =>
        rw [q] at h
        exact wpAny_pure ⟨v, rfl, h⟩
      | none =>
        rw [q] at h
        show wpAny _ _ (Builtin.Dict.missed d key >>= _) _ _ _
        exact wpAny_bind (wpAny_missed_other hb (wpAny_pure ⟨r, rfl, h⟩))
  exact call_meetsIn PySem.F.slot_dict_get hm.ty PySem.F.entry_dict_get (PySem.F.args_dict_get_3 _ _ _) M ⟨hu, k, xs, hk, hm, hq⟩
end
def rGet2D (P : Program) (w : World) (K : PySem.W.Frag) : V → List V → Hp → VK → Prop := fun x vs H Q => ∃ d kvs k y z, x = .ref d ∧ vs = [y, z] ∧ DicR P w K H d kvs ∧ KyV K H k y ∧ Q ((valV kvs k).getD z) H
theorem mt_dget2 {X : Cx} (hu : X.A.units + 1 < cLine) : MtR X "dict.get" (rGet2D X.prog X.w X.K) := by
  intro pins s σ H x vs u us Q I rx rs ⟨d, kvs, k, y, z, e, e2, h, ky, q⟩
  subst e e2
  obtain rfl : u = Value.ref d := rx
  obtain ⟨uy, uz, eu, ry, rz⟩ := vals2 rs
  subst eu
  obtain ⟨xs, hm, hp, _, hb⟩ := dic_of I h
  exact dget2_P hu (isP_of I ky ry) hb hm ⟨(valV kvs k).getD z, H, I.tok _, (hp.look k).getD rz, q⟩
theorem pe_dmeth2 {X : Cx} {o e e2 : Expr} {to : TE} {t : TA} {name : Str} {apos cpos : Pos} {id : String} {r : V → List V → Hp → VK → Prop} (pa : PlainAttrs "dict") (slot : Slot "dict" name id) (hty : typeOf (.builtin id) = pure (.type "method_descriptor")) (hm : MtR X id r) (ho : PE X o to) (ha : PA X [e, e2] t)
    (hb : attributeBase o name X.env (eval o X.env) = eval o X.env := by rfl) (hl : (apos.endLine == cpos.line) = true := by rfl)
    (hw : ((backTo cpos (starEach [e, e2] X.env)).all (fun x => !x.1) && (backToKw cpos (keywordEach [] X.env)).all (fun x => x.1.isSome) && decide (([e, e2] : List Expr).length + ([] : List Keyword).length + (if ([] : List Keyword).isEmpty then 0 else 1) < 30)) = true := by rfl)
    (hs : starEach [e, e2] X.env = (false, eval e X.env) :: starEach [e2] X.env := by rfl) (hp : (backTo cpos (starEach [e2] X.env)).any (·.1) = false := by rfl) :
    PE X (.Call (.Attribute o name apos) [e, e2] [] cpos) (tDMeth X.prog X.w X.K r to t) := by
  refine ⟨fun pins s σ H Q I h => wpAny_Call_method_late hb hw hl rfl (thn (ho.run pins s σ H _ I h) ?_)⟩
  rintro v s1 ⟨x, H1, I1, rx, ⟨d, kvs, ed, hd⟩, q⟩
  subst ed
  obtain rfl : v = Value.ref d := rx
  obtain ⟨_, ⟨ob, _, _, e1, e3, _⟩, _⟩ := dic_of I1 hd
  have hA := ha.run cpos pins s1 σ H1 _ I1 q
  rw [hs] at hA
  refine ⟨"dict", id, pa, slot, hty, ⟨ob, e1, e3.1⟩, fun a ea => (by cases ea; exact ⟨ob, e1, e3.2.1⟩), ?_⟩
  rw [hs]
  refine Calls.callWith_builtin (by show (false || (backTo cpos (starEach [e2] X.env)).any (·.1)) = false; rw [hp]; rfl) (Calls.evalArgs_plain (thn hA fun us s2 ⟨vs, H2, I2, r2, q2⟩ => hm pins s2 σ H2 (.ref d) vs (.ref d) us Q I2 rfl r2 q2))
end Mk


set_option Elab.async false
set_option linter.all false
set_option maxRecDepth 100000
set_option maxHeartbeats 4000000
/-! () * n -/
namespace Mk
open PySem PySem.Spec PyProof.Rows L2
theorem tuple_mul0 (l : Addr) (n : Nat) (dd : Option Addr) (sl : Array (Option Value)) (x : Int) (u : Tok) (c0 : (decide (x < -(2 ^ 63)) || decide (x ≥ 2 ^ 63)) = false) :
    Meets (Builtin.«tuple.__mul__» ⟨[.ref l, .int x u], []⟩) (fun _ R s => s.heap.get? l = some { cls := .type "tuple", dict := dd, data := .seq #[] n, slots := sl } ∧ R (.ok (.ret (Value.ref l))) s) :=
  .of_wp fun prog w A R s h => by
    obtain ⟨hp, g, d, tk, os⟩ := s
    obtain ⟨hl, h⟩ := h
    have f1 := AutoSeq1.idx_int
    wp_walk using wpAny_loadPart' hl
    repeat (first
      | (refine wpAny_ite_false (decide_eq_false (by rw [c0]; exact Bool.false_ne_true)) ?_; wp_walk using wpAny_loadPart' hl))
    exact ⟨_, rfl, h⟩
/-- t * k, the empty t too (which is itself then) -/
def rRepTE (K : PySem.W.Frag) : R2 := fun x y H Q => rRepT K x y H Q ∨ ∃ l k, x = .ref l ∧ y = .int k ∧ SqT K H l [] ∧ 2 ≤ k ∧ k ≤ 1000 ∧ Q (.ref l) H
theorem op_repTE {X : Cx} : OpR X (binaryOp .Mult) (rRepTE X.K) := by
  intro pins s σ H x y v u Q I rx ry h
  rcases h with h | ⟨l, k, ex, ey, hT, h1, h2, q⟩
  · exact op_repT pins s σ H x y v u Q I rx ry h
  · subst ex ey
    obtain rfl : v = Value.ref l := rx
    obtain ⟨t, rfl⟩ := ry
    obtain ⟨its, r, ⟨⟨cls, dd, data, sl⟩, ho, hc, n, hd⟩, hs⟩ := I.tuple hT
    cases r
    simp only at hc hd
    subst hc hd
    have c0 : (decide (k < -(2 ^ 63)) || decide (k ≥ 2 ^ 63)) = false := by
      rw [decide_eq_false (by omega), decide_eq_false (by omega)] <;> rfl
    exact wpAny_binaryOp_repeat_ref (T := "tuple") (U := "int") (by decide) ⟨_, ho, rfl⟩ (fun s' => typeIs_int s' k t) noFill_tuple_mul F.fills_int_mul F.slot_int_rmul repeat_tuple F.slot_int_index.lookup
      (call_meets F.slot_int_rmul (typeIs_int s k t) F.entry_int_rmul (F.args_int_rmul_2 _ _) (int_rmul_tuple k t l #[] n dd sl)
        ⟨ho, rfl, ⟨_, ho, rfl⟩, call_meets F.slot_tuple_mul ⟨_, ho, rfl⟩ F.entry_tuple_mul (F.args_tuple_mul_2 _ _) (tuple_mul0 l n dd sl k t c0) ⟨ho, .ref l, H, I, rfl, q⟩⟩)
end Mk


set_option Elab.async false
set_option linter.all false
set_option maxRecDepth 100000
set_option maxHeartbeats 400000
/-! more rules for blocks: the frag by name -/
namespace Mk
open PySem PySem.Spec PyProof.Rows L2
section
variable {X : Cx} {K : PySem.W.Frag}
theorem call_len_seqB (hK : X.K = K) : CallR X (.builtin "len") (fun xs H Q => ∃ p ys, xs = [.ref p] ∧ (SqL K H p ys ∨ SqT K H p ys) ∧ Q (.int ys.length) H) := by subst hK; exact call_len_seq
theorem ix_listB (hK : X.K = K) : IxR X (rIxL K) := by subst hK; exact ix_list
theorem op_eqDB (hu : X.A.units + 64 < cLine) (hK : X.K = K) : OpR X (compareOp .Eq) (rEqD K) := by subst hK; exact op_eqD hu
theorem op_neDB (hu : X.A.units + 64 < cLine) (hK : X.K = K) : OpR X (compareOp .NotEq) (rNeD K) := by subst hK; exact op_neD hu
theorem op_eqEB (hu : X.A.units < cLine) (hK : X.K = K) : OpR X (compareOp .Eq) (rEqE K) := by subst hK; exact op_eqE hu
theorem op_neEB (hu : X.A.units < cLine) (hK : X.K = K) : OpR X (compareOp .NotEq) (rNeE K) := by subst hK; exact op_neE hu
end
end Mk


set_option Elab.async false
set_option linter.all false
set_option maxRecDepth 100000
set_option maxHeartbeats 400000
/-! ring_in, ring_of -/
namespace Mk
open PySem PySem.Spec PyProof.Rows L2
/-- the point before p by the steps -/
def nxM (ds : List Dif) (S : Num) (p : PK) : PK := match lookA S p with
  | some i => match ds[i.toNat]? with
    | some d => d.2.1
    | none => p
  | none => p
def chM (ds : List Dif) (S : Num) : Nat → PK → PK
  | 0, p => p
  | n + 1, p => nxM ds S (chM ds S n p)
/-- the steps name rows that stand -/
def StepOk (ds : List Dif) (S : Num) : Prop := ∀ p i, lookA S p = some i → 0 ≤ i ∧ i.toNat < ds.length
/-- from some point the steps never end -/
def HasCyc (ds : List Dif) (S : Num) : Prop := ∃ st, st ∈ S.map (·.1) ∧ ∀ n, chM ds S n st ∈ S.map (·.1)
/-- a ring told by its rows -/
def RingM (ds : List Dif) (S : Num) (rs : List Int) : Prop := ∃ (p : PK) (m : Nat), 0 < m ∧ m ≤ S.length ∧ chM ds S m p = p ∧ (∀ n, chM ds S n p ∈ S.map (·.1)) ∧ rs = (List.range m).map fun j => (lookA S (chM ds S j p)).getD 0
section
variable {P : Program} {w : World} {K : PySem.W.Frag} {mg : Str → Option Value} {base : Heap}
def spRin (P : Program) (w : World) (K : PySem.W.Frag) : Sp := fun vs H Q _ => ∃ v dt ds S, vs = [v, .ref dt] ∧ DsV K H ds v ∧ GoodDs ds ∧ DicW P w K H dt (IM S) ∧ (S.map (·.1)).Nodup ∧ S.length ≤ 1000 ∧ (∀ k ∈ S.map (·.1), GoodP k) ∧ StepOk ds S ∧ HasCyc ds S ∧
  ∀ H' p rs, Gx H H' → H p = none → SqT K H' p (rs.map V.int) → RingM ds S rs → Q (.ref p) H'
theorem mem_look {S : Num} {p : PK} (h : p ∈ S.map (·.1)) : ∃ i, lookA S p = some i := by
  have := lookA_mem.mpr h
  exact Option.isSome_iff_exists.mp this
/-- differences[steps[point]][1] -/
theorem nx_ok {H : Hp} {ds : List Dif} {S : Num} {v x : V} {dt : Addr} {p : PK} {i : Nat} {σ : L2.St} {Q : VK} (h0 : σ[0]? = some (some v)) (h1 : σ[1]? = some (some (.ref dt))) (hi : σ[i]? = some (some x)) (hv : DsV K H ds v) (hS : DicR P w K H dt (IM S))
    (ok : StepOk ds S) (hp : p ∈ S.map (·.1)) (hx : KyV K H p x) (q : ∀ y, KyV K H (nxM ds S p) y → Q y H) : tOp (rIxT K) (tOp (rIxT K) (tVar 0) (tOp (Mk.rIxD P w K) (tVar 1) (tVar i))) (tC (V.int 1)) σ H Q := by
  obtain ⟨a, vs, rfl, hT, pr⟩ := hv
  obtain ⟨j, hj⟩ := mem_look hp
  obtain ⟨j0, jl⟩ := ok p j hj
  obtain ⟨b, hb, r⟩ := pair_at' pr (List.getElem?_eq_getElem jl)
  obtain ⟨t, y1, y2, rfl, h3, k1, k2⟩ := r
  refine ⟨_, h0, _, h1, _, hi, dt, _, p, _, rfl, hS, hx, by rw [VM_look, hj]; rfl, a, vs, j, _, rfl, rfl, hT, ?_, t, _, 1, _, rfl, rfl, h3, atI_nat (j := 1) rfl, q _ ?_⟩
  · have := atI_nat hb
    rwa [Int.toNat_of_nonneg j0] at this
  · unfold nxM
    rw [hj]
    dsimp only
    rw [List.getElem?_eq_getElem jl]
    exact k2
theorem least_per {ds : List Dif} {S : Num} {p : PK} : ∀ m : Nat, 0 < m → chM ds S m p = p → ∃ r, 0 < r ∧ chM ds S r p = p ∧ ∀ j, 0 < j → j < r → chM ds S j p ≠ p := by
  intro m
  induction m using Nat.strongRecOn with
  | ind m ih =>
    intro h0 h1
    by_cases h : ∃ j, 0 < j ∧ j < m ∧ chM ds S j p = p
    · obtain ⟨j, a, b, c⟩ := h
      exact ih j b a c
    · exact ⟨m, h0, h1, fun j a b c => h ⟨j, a, b, c⟩⟩
theorem chM_add {ds : List Dif} {S : Num} {p : PK} {b : Nat} : ∀ a, chM ds S (a + b) p = chM ds S a (chM ds S b p)
  | 0 => by rw [Nat.zero_add]; rfl
  | a + 1 => by rw [Nat.add_right_comm, chM, chM, chM_add a]
theorem per_len {ds : List Dif} {S : Num} {p : PK} {r : Nat} (rper : chM ds S r p = p) (rmin : ∀ j, 0 < j → j < r → chM ds S j p ≠ p) (hin : ∀ n, chM ds S n p ∈ S.map (·.1)) : r ≤ S.length := by
  have nd : ((List.range r).map fun n => chM ds S n p).Nodup := by
    rw [List.nodup_iff_pairwise_ne, List.pairwise_map, List.pairwise_iff_getElem]
    intro i j hi hj hij e
    rw [List.length_range] at hi hj
    rw [List.getElem_range, List.getElem_range] at e
    refine rmin (r - j + i) (by omega) (by omega) ?_
    rw [chM_add, e, ← chM_add, show r - j + j = r by omega]
    exact rper
  have := nodup_len nd (r := S.map (·.1)) fun x hx => by
    obtain ⟨n, _, rfl⟩ := List.mem_map.mp hx
    exact hin n
  simpa using this
theorem per_mod {ds : List Dif} {S : Num} {p : PK} {m : Nat} (hm : chM ds S m p = p) : ∀ k, chM ds S (m * k) p = p
  | 0 => rfl
  | k + 1 => by rw [Nat.mul_succ, chM_add, hm, per_mod hm k]
def rin2 (P : Program) (w : World) (K : PySem.W.Frag) : TS := tSeq (tPar 5 6 (tCons (tLst tNil) (tCons (tVar 2) tNil)))
  (tSeq (tWhile (tOr (tTest (tOp rEq (tCB (fun xs H Q => ∃ p, xs = [V.ref p] ∧ ∃ x, (SqL K H p x ∨ SqT K H p x) ∧ Q (V.int ↑x.length) H) (tCons (tVar 5) tNil)) (tC (V.int 0)))) (tTest (tOp (rNeD K) (tVar 6) (tVar 2))))
      (tSeq (tDrop (tBM K "list" rAppend (tVar 5) (tCons (tOp (Mk.rIxD P w K) (tVar 1) (tVar 6)) tNil)))
        (tAsg (tOp (rIxT K) (tOp (rIxT K) (tVar 0) (tOp (Mk.rIxD P w K) (tVar 1) (tVar 6))) (tC (V.int 1))) (gName 6))))
    (tRet (tCB (fun xs H Q => ∃ p, xs = [V.ref p] ∧ ∃ x, (SqL K H p x ∧ ∀ (l : Addr), H l = none → Q (V.ref l) (upd H l (HO.tup x))) ∨ SqT K H p x ∧ Q (V.ref p) H) (tCons (tVar 5) tNil))))
theorem rin2_ok {H : Hp} {ds : List Dif} {S : Num} {v x2 : V} {x3 x4 x5 x6 : Option V} {dt : Addr} {p : PK} {nx : L2.St → Hp → Prop} {Q : VK} (hv : DsV K H ds v) (hS : DicW P w K H dt (IM S)) (lS : S.length ≤ 1000) (ok : StepOk ds S) (gS : ∀ k ∈ S.map (·.1), GoodP k)
    (hx : KyV K H p x2) {m0 : Nat} (hm0 : 0 < m0) (hper : chM ds S m0 p = p) (hin : ∀ n, chM ds S n p ∈ S.map (·.1))
    (q : ∀ H' r rs, Gx H H' → H r = none → SqT K H' r (rs.map V.int) → RingM ds S rs → Q (.ref r) H') : rin2 P w K { nx := nx, rt := Q } [some v, some (.ref dt), some x2, x3, x4, x5, x6] H := by
  obtain ⟨r, r0, rper, rmin⟩ := least_per m0 hm0 hper
  have lr : r ≤ 1000 := Nat.le_trans (per_len rper rmin hin) lS
  unfold rin2
  simp only [cxOf, Cx.nox, L2.start, tRet, tAndV, tOrV, tNotV, tCB, tCons, tNil, tVar, tC, tOp, tUn, tChain, tIfS, tTest, tSeq, tNext, tB, tOr, tAnd, tNot, tAsg, tDrop, tCall, rI0, rI, rU, List.cons_append, List.nil_append, List.append_nil, List.map_cons, List.map_nil, List.length_cons, List.length_nil, Nat.reduceAdd, Nat.reduceSub, List.replicate_succ, List.replicate_zero, List.getElem?_cons_zero, List.getElem?_cons_succ, Option.some.injEq, exists_eq_left, exists_eq_left', exists_eq_right, V.int.injEq, V.bl.injEq, V.str.injEq, V.ref.injEq, true_and, and_true, exists_and_left, if_true, if_false, gTup, gCons, gNil, gSub, gName, Mk.rSetD, List.set_cons_zero, List.set_cons_succ, Bool.false_eq_true, List.cons.injEq, Bool.not_true, Bool.not_false, eq_self, decide_true, decide_false, c3, tPar, tLst, List.set_cons_zero]
  refine ⟨Nat.zero_le _, fun F hF => ?_⟩
  refine ⟨_, _, ⟨rfl, rfl⟩, ?_⟩
  refine ⟨fun k σ H' => ∃ j x6, k = r - j ∧ j ≤ r ∧ σ = [some v, some (.ref dt), some x2, x3, x4, some (.ref F), some x6] ∧ Gx H H' ∧ H' F = some (.lst (((List.range j).map fun j => (lookA S (chM ds S j p)).getD 0).map V.int)) ∧ KyV K H' (chM ds S j p) x6,
    ⟨r, 0, x2, rfl, Nat.zero_le _, rfl, .new hF, upd_same, hx.keep (Gx.new hF).tk⟩, fun k σ H1 hW => ?_⟩
  obtain ⟨j, y6, rfl, jr, rfl, g, hFl, hy⟩ := hW
  have lj : (((List.range j).map fun j => (lookA S (chM ds S j p)).getD 0).map V.int).length = j := by simp
  have cond : ∀ {Qb : Bool → Hp → Prop}, Qb (decide (j = 0) || !decide (chM ds S j p = p)) H1 → (tOr (tTest (tOp rEq (tCB (fun xs H Q => ∃ p, xs = [V.ref p] ∧ ∃ x, (SqL K H p x ∨ SqT K H p x) ∧ Q (V.int ↑x.length) H) (tCons (tVar 5) tNil)) (tC (V.int 0)))) (tTest (tOp (rNeD K) (tVar 6) (tVar 2))))
      [some v, some (.ref dt), some x2, x3, x4, some (.ref F), some y6] H1 Qb := by
    intro Qb hq
    refine ⟨_, rfl, F, rfl, _, .inl (.inl (.inl hFl)), rfl, _, rfl, ?_⟩
    rw [lj]
    by_cases j0 : j = 0
    · subst j0
      exact hq
    · rw [decide_eq_false j0, Bool.false_or] at hq
      rw [show decide (V.int ((j : Nat) : Int) = V.int 0) = false from decide_eq_false (fun z => by cases z; exact j0 rfl)]
      refine ⟨_, rfl, _, rfl, ptD (chM ds S j p), ptD p, hy.dp, (hx.keep g.tk).dp, shaped_pt (gS _ (hin j)), shaped_pt (gS _ (hin 0)), _, rfl, ?_⟩
      rw [eqv_pt]
      exact hq
  refine cond ?_
  by_cases hj : j = 0 ∨ chM ds S j p ≠ p
  · have jlt : j < r := by
      rcases Nat.lt_or_ge j r with h | h
      · exact h
      · have e : j = r := by omega
        subst e
        rcases hj with h | h
        · omega
        · exact absurd rper h
    rw [show (decide (j = 0) || !decide (chM ds S j p = p)) = true by rcases hj with h | h <;> simp [h]]
    obtain ⟨i, hi⟩ := mem_look (hin j)
    refine ⟨fun σ' H' => ∃ y6, σ' = [some v, some (.ref dt), some x2, x3, x4, some (.ref F), some y6] ∧ Gx H H' ∧ H' F = some (.lst (((List.range (j + 1)).map fun j => (lookA S (chM ds S j p)).getD 0).map V.int)) ∧ KyV K H' (chM ds S (j + 1) p) y6,
      fun σ' H' ⟨y6, a, b, c, d⟩ => ⟨r - (j + 1), by omega, j + 1, y6, rfl, jlt, a, b, c, d⟩, ?_⟩
    refine ⟨.ref F, rfl, .inl ⟨rfl, _, .inl (.inl hFl)⟩, _, rfl, _, rfl, dt, _, _, _, rfl, (g.dicW hS).r, hy, by rw [VM_look, hi]; rfl, F, _, _, rfl, rfl, hFl, ?_, ?_⟩
    · rw [lj]; exact line_lt (m := 1000) (by omega)
    · have g2 : Gx H (upd H1 F (.lst ((((List.range j).map fun j => (lookA S (chM ds S j p)).getD 0).map V.int) ++ [.int i]))) := g.mut hF
      refine nx_ok (i := 6) rfl rfl rfl (hv.keep g2.tk) (g2.dicW hS).r ok (hin j) (hy.keep (Tk.mut (by rw [hFl]; exact True.intro))) fun y hyy => ?_
      refine ⟨y, rfl, g2, ?_, hyy⟩
      rw [upd_same, List.range_succ, List.map_append, List.map_append]
      simp [hi]
  · obtain ⟨h1, h2⟩ := not_or.mp hj
    have h2 : chM ds S j p = p := Classical.not_not.mp h2
    have e : j = r := by
      rcases Nat.lt_or_ge j r with h | h
      · exact absurd h2 (rmin j (by omega) h)
      · omega
    subst e
    rw [show (decide (j = 0) || !decide (chM ds S j p = p)) = false by simp [h1, h2]]
    refine ⟨_, rfl, F, rfl, _, .inl ⟨.inl (.inl hFl), fun l hl => q _ l _ (g.trans (.new hl)) (g.free hl) (.inl (.inl upd_same)) ⟨p, j, r0, per_len rper rmin hin, rper, hin, rfl⟩⟩⟩
theorem C_ring_in (T : Tops mg) (D : Def K mg "ring_in" s_ring_in ["differences", "steps"]) : Cal P w K mg base "ring_in" 1 ["differences", "steps"] (spRin P w K) := by
  refine Cal.of D sc_ring_in (fun vs H Q E h => ?_) (fun f cdv A outer s H vs Q E hr h => ?_)
  · obtain ⟨v, dn, ds, S, rfl, _⟩ := h; rfl
  · obtain ⟨v, dt, ds, S, rfl, hv, hg, hS, hnd, lS, gS, ok, cyc, q⟩ := h
    have hu := hu_of hr
    have h0 := hr.units0
    have h64 := hr.units
    refine ⟨_, (pss_cons (ps_set (i := 2) sc_ring_in.nd rfl (Or.inl rfl) (pe_nextIter rfl (pv 1) (by rfl) T.b_next (by rfl) T.b_iter))
      (pss_cons (ps_lock (ps_for PassesOwn.never rfl (pi_dic (pv 1)) (pg_name (i := 3) sc_ring_in.nd rfl (Or.inl rfl))
      (pss_cons (ps_par rfl sc_ring_in.nd (i := 4) (j := 2) rfl rfl (by decide) rfl rfl (pa_cons (pe_toP pe_dnewK) (pa_cons (pv 3) pa_nil)) (by rfl))
      (pss_cons (ps_while PassesOwn.never (PW.pt (pw_and (pt_cmpR (op_inD' hu (P := P) (w := w) (K := K) rfl rfl rfl) (pv 2) (pv 1) (by rfl)) (pw_and1 (pt_cmpR (op_notInD' hu (P := P) (w := w) (K := K) rfl rfl rfl) (pv 2) (pv 4) (by rfl))))) (pss_cons (ps_asg pe_bl (pg_sub (pv 4) (pv 2) (set_dic hu)))
      (pss_one (ps_set (i := 2) sc_ring_in.nd rfl (Or.inl rfl) (pe_ix (ix_tup' (K := K) rfl) (pe_ix (ix_tup' (K := K) rfl) (pv 0) (pe_ix (ix_dic' hu (P := P) (w := w) (K := K) rfl rfl rfl) (pv 1) (pv 2) (fun _ _ => rfl)) (fun _ _ => rfl)) pe_int (fun _ _ => rfl))))))
      (pss_one (ps_if (pt_cmpR (op_inD' hu (P := P) (w := w) (K := K) rfl rfl rfl) (pv 2) (pv 4) (by rfl)) (pss_one ps_break) pss_nil))))))
      (pss_cons (ps_par rfl sc_ring_in.nd (i := 5) (j := 6) rfl rfl (by decide) rfl rfl (pa_cons (pe_lst pa_nil) (pa_cons (pv 2) pa_nil)) (by rfl))
      (pss_cons (ps_while PassesOwn.never (PW.pt (pw_or (pt_cmpR op_eq (pe_callB call_len_seq (by rfl) T.b_len (by decide +kernel) (pa_cons (pv 5) pa_nil)) pe_int (nomark _)) (pw_or1 (pt_cmpR (op_neD h64) (pv 6) (pv 2) (nomark _))))) (pss_cons (ps_expr (pe_bm PySem.F.plainAttrs_list PySem.F.slot_list_append PySem.F.type_list_append mt_append (pv 5) (pa_cons (pe_ix (ix_dic' hu (P := P) (w := w) (K := K) rfl rfl rfl) (pv 1) (pv 6) (fun _ _ => rfl)) pa_nil)))
      (pss_one (ps_set (i := 6) sc_ring_in.nd rfl (Or.inl rfl) (pe_ix (ix_tup' (K := K) rfl) (pe_ix (ix_tup' (K := K) rfl) (pv 0) (pe_ix (ix_dic' hu (P := P) (w := w) (K := K) rfl rfl rfl) (pv 1) (pv 6) (fun _ _ => rfl)) (fun _ _ => rfl)) pe_int (fun _ _ => rfl))))))
      (pss_one (ps_ret (pe_callTy call_tuple_of (by rfl) T.b_tuple (by decide +kernel) (pa_cons (pv 5) pa_nil)))))))), ?_⟩
    simp only [cxOf, Cx.nox, L2.start, tRet, tAndV, tOrV, tNotV, tCB, tCons, tNil, tVar, tC, tOp, tUn, tChain, tIfS, tTest, tSeq, tNext, tB, tOr, tAnd, tNot, tAsg, tDrop, tCall, rI0, rI, rU, List.cons_append, List.nil_append, List.append_nil, List.map_cons, List.map_nil, List.length_cons, List.length_nil, Nat.reduceAdd, Nat.reduceSub, List.replicate_succ, List.replicate_zero, List.getElem?_cons_zero, List.getElem?_cons_succ, Option.some.injEq, exists_eq_left, exists_eq_left', exists_eq_right, V.int.injEq, V.bl.injEq, V.str.injEq, V.ref.injEq, true_and, and_true, exists_and_left, if_true, if_false, gTup, gCons, gNil, gSub, gName, Mk.rSetD, List.set_cons_zero, List.set_cons_succ, Bool.false_eq_true, List.cons.injEq, Bool.not_true, Bool.not_false, eq_self, decide_true, decide_false, c3, N_ring_in, tNextIter]
    refine ⟨_, hS.r, fun pt _ => ?_⟩
    obtain ⟨xs, hx, pe⟩ := id hS
    refine ⟨dt, _, hx, True.intro, fun od => ?_⟩
    have tkl : Tk K H (upd H dt (.frz od (.ext (rawD P w dt xs)))) := Tk.mut hS.mut
    generalize hHL : upd H dt (.frz od (.ext (rawD P w dt xs))) = HL at *
    have hdl : HL dt = some (.frz od (.ext (rawD P w dt xs))) := by rw [← hHL]; exact upd_same
    have peL := pe.keep tkl
    have dR : ∀ {H'}, Gx HL H' → DicR P w K H' dt (IM S) := fun g => ⟨xs, .inr ⟨od, g _ _ hdl⟩, peL.keep g.tk⟩
    refine ⟨_, rfl, dt, od, xs, IM S, rfl, hdl, peL, for_it walk_dic (fun i σ H' => ∃ x2 x3 x4, σ = [some v, some (.ref dt), x2, x3, x4, none, none] ∧ Gx HL H' ∧ ∀ j k z, j < i → (IM S)[j]? = some (k, z) → ∃ n, chM ds S n k ∉ S.map (·.1))
      ⟨_, _, _, rfl, .refl, fun _ _ _ h => absurd h (Nat.not_lt_zero _)⟩ (fun i σ H' _ h => ?_) (fun i x σ H1 H2 hi hP hY => ?_) (fun σ H1 hP => ?_)⟩
    · obtain ⟨_, _, _, _, g, _⟩ := h
      exact ⟨g _ _ hdl, peL.keep g.tk⟩
    · obtain ⟨rfl, st, z, hst, kst⟩ := hY
      obtain ⟨x2, x3, x4, rfl, g, hno⟩ := hP
      intro sd hsd
      refine ⟨sd, [], rfl, upd_same, fun u hsd0 => ?_⟩
      rw [upd_upd] at hsd0 ⊢
      refine ⟨_, rfl, _, _, rfl, ?_⟩
      have hsl : HL sd = none := g.free hsd
      have hvL : DsV K HL ds v := hv.keep tkl
      refine ⟨fun m σ H' => ∃ j y, m = 1001 - j ∧ σ = [some v, some (.ref dt), some y, some x, some (.ref sd), none, none] ∧ Gx HL H' ∧ KyV K H' (chM ds S j st) y ∧ DicW P w K H' sd ((List.range j).map fun n => (chM ds S n st, V.bl true)) ∧
          ((List.range j).map fun n => chM ds S n st).Nodup ∧ (∀ n, n < j → chM ds S n st ∈ S.map (·.1)),
        ⟨1001, 0, x, rfl, rfl, g.mut hsl, kst.keep (Gx.new hsd).tk, hsd0, List.nodup_nil, fun _ h => absurd h (Nat.not_lt_zero _)⟩, fun m σ H3 hW => ?_⟩
      obtain ⟨j, y, rfl, rfl, g3, hy, hsd3, nd, hin⟩ := hW
      have jl : j ≤ 1000 := by
        have := nodup_len nd (r := S.map (·.1)) fun a ha => by
          obtain ⟨n, hn, rfl⟩ := List.mem_map.mp ha
          exact hin n (List.mem_range.mp hn)
        simp at this
        omega
      have seen_iff : (valV ((List.range j).map fun n => (chM ds S n st, V.bl true)) (chM ds S j st)).isSome = true ↔ ∃ n, n < j ∧ chM ds S n st = chM ds S j st := by
        rw [← valV_any, List.any_map, List.any_eq_true]
        exact ⟨fun ⟨n, a, b⟩ => ⟨n, List.mem_range.mp a, by simpa using b⟩, fun ⟨n, a, b⟩ => ⟨n, List.mem_range.mpr a, by simpa using b⟩⟩
      have in_iff : (valV (IM S) (chM ds S j st)).isSome = true ↔ chM ds S j st ∈ S.map (·.1) := by
        rw [VM_look, Option.isSome_map, lookA_mem]
      refine ⟨_, rfl, _, rfl, dt, _, _, rfl, dR g3, hy, _, rfl, ?_⟩
      dsimp only
      by_cases ck : chM ds S j st ∈ S.map (·.1)
      · rw [if_pos (in_iff.mpr ck)]
        refine ⟨_, rfl, _, rfl, sd, _, _, rfl, hsd3.r, hy, _, rfl, ?_⟩
        by_cases cs : ∃ n, n < j ∧ chM ds S n st = chM ds S j st
        · rw [seen_iff.mpr cs]
          refine ⟨_, rfl, _, rfl, sd, _, _, rfl, hsd3.r, hy, _, rfl, ?_⟩
          rw [seen_iff.mpr cs]
          obtain ⟨n, nj, en⟩ := cs
          have gL : Gx H (upd H3 dt (.ext (rawD P w dt xs))) := by rw [← hHL] at g3; exact g3.lock hx
          have per : chM ds S (j - n) (chM ds S n st) = chM ds S n st := by rw [← chM_add, show j - n + n = j by omega, en]
          have hy2 : KyV K (upd H3 dt (.ext (rawD P w dt xs))) (chM ds S n st) y := by
            rw [en]
            refine hy.keep fun b zs hb => ?_
            rcases hb with (hb | ⟨o, hb⟩) | hb
            · exact .inl (.inl (by rw [upd_ne (fun z => by rw [z, g3 _ _ hdl] at hb; cases hb)]; exact hb))
            · exact .inl (.inr ⟨o, by rw [upd_ne (fun z => by rw [z, g3 _ _ hdl] at hb; cases hb)]; exact hb⟩)
            · exact .inr hb
          refine ⟨g3 _ _ hdl, rin2_ok (hv.keep gL.tk) (gL.dicW hS) lS ok gS hy2 (m0 := j - n) (by omega) per (fun k => ?_) fun H' r rs g' hr' hs' rm => q _ _ _ (gL.trans g') (gL.free hr') hs' rm⟩
          have e1 : chM ds S k (chM ds S n st) = chM ds S (k % (j - n) + n) st := by
            rw [chM_add, ← Nat.mod_add_div k (j - n), chM_add, per_mod per, Nat.mod_add_div]
          rw [e1]
          have := Nat.mod_lt k (show 0 < j - n by omega)
          exact hin _ (by omega)
        · have ns : (valV ((List.range j).map fun n => (chM ds S n st, V.bl true)) (chM ds S j st)).isSome = false := by
            rw [Bool.eq_false_iff]
            exact fun z => cs (seen_iff.mp z)
          rw [ns]
          refine ⟨fun σ' H' => ∃ y, σ' = [some v, some (.ref dt), some y, some x, some (.ref sd), none, none] ∧ Gx HL H' ∧ KyV K H' (chM ds S (j + 1) st) y ∧ DicW P w K H' sd ((List.range (j + 1)).map fun n => (chM ds S n st, V.bl true)) ∧
              ((List.range (j + 1)).map fun n => chM ds S n st).Nodup ∧ (∀ n, n < j + 1 → chM ds S n st ∈ S.map (·.1)), fun σ' H' ⟨y, a, b, c, d, e, f⟩ => ⟨1001 - (j + 1), by omega, j + 1, y, rfl, a, b, c, d, e, f⟩, ?_⟩
          refine ⟨_, rfl, _, rfl, sd, _, _, rfl, hsd3, hy, line_lt (m := 1000) (by simp; exact jl), fun u2 h2 => ?_⟩
          have tk2 : Tk K H3 (upd H3 sd u2) := Tk.mut hsd3.mut
          have g4 : Gx HL (upd H3 sd u2) := g3.mut hsl
          refine nx_ok (i := 2) rfl rfl rfl (hvL.keep g4.tk) (dR g4) ok ck (hy.keep tk2) fun y2 hy2 => ?_
          have er : (List.range (j + 1)).map (fun n => chM ds S n st) = (List.range j).map (fun n => chM ds S n st) ++ [chM ds S j st] := by rw [List.range_succ, List.map_append]; rfl
          refine ⟨y2, rfl, g4, hy2, ?_, ?_, fun n hn => ?_⟩
          · rw [putK_new] at h2
            · rw [List.range_succ, List.map_append]; exact h2
            · rw [List.map_map]
              intro z
              obtain ⟨n, a, b⟩ := List.mem_map.mp z
              exact cs ⟨n, List.mem_range.mp a, b⟩
          · rw [er, List.nodup_append]
            refine ⟨nd, by simp, fun a ha b hb => ?_⟩
            rw [List.mem_singleton] at hb
            obtain ⟨n, hn, rfl⟩ := List.mem_map.mp ha
            exact fun z => cs ⟨n, List.mem_range.mp hn, z.trans hb⟩
          · rcases Nat.lt_or_ge n j with h | h
            · exact hin n h
            · have : n = j := by omega
              rw [this]; exact ck
      · rw [if_neg (fun z => ck (in_iff.mp z))]
        refine ⟨_, rfl, _, rfl, sd, _, _, rfl, hsd3.r, hy, _, rfl, ?_⟩
        have ns : (valV ((List.range j).map fun n => (chM ds S n st, V.bl true)) (chM ds S j st)).isSome = false := by
          rw [Bool.eq_false_iff]
          intro z
          obtain ⟨n, a, b⟩ := seen_iff.mp z
          exact ck (b ▸ hin n a)
        rw [ns]
        refine ⟨_, _, _, rfl, g3, fun a k z ha hk => ?_⟩
        rcases Nat.lt_or_ge a i with h | h
        · exact hno a k z h hk
        · have : a = i := by omega
          subst this
          rw [hst] at hk
          cases hk
          exact ⟨j, ck⟩
    · obtain ⟨x2, x3, x4, rfl, g, hno⟩ := hP
      obtain ⟨st, h1, h2⟩ := cyc
      obtain ⟨j, hj⟩ := mem_look h1
      exfalso
      obtain ⟨kv, hk, e1⟩ := List.mem_map.mp h1
      obtain ⟨n, hn⟩ := List.mem_iff_getElem?.mp hk
      obtain ⟨m, hm⟩ := hno n st (.int kv.2) (by have := (List.getElem?_eq_some_iff.mp hn).1; rw [VM_len]; exact this) (by rw [IM, VM, List.getElem?_map, hn, ← e1]; rfl)
      exact hm (h2 m)
end
end Mk


set_option Elab.async false
set_option linter.all false
set_option maxRecDepth 100000
set_option maxHeartbeats 400000
/-! the plain law of rounds: steps, last rounds, rings -/
namespace Mk
open PySem PySem.Spec PyProof.Rows L2
/-! ### a round that changes nothing -/
theorem stepM_true {N S : Num} {i : Int} {d : Dif} : (stepM (N, S, true) i d).2.2 = true := by
  unfold stepM
  split
  · rfl
  · split
    · rfl
    · split <;> rfl
theorem roundM_true {i : Nat} : ∀ {ds : List Dif} {N S : Num}, (roundM (N, S, true) i ds).2.2 = true := by
  intro ds
  induction ds generalizing i with
  | nil => intros; rfl
  | cons d ds ih =>
    intro N S
    rw [roundM]
    have := stepM_true (N := N) (S := S) (i := i) (d := d)
    rcases h : stepM (N, S, true) i d with ⟨N', S', b'⟩
    rw [h] at this
    cases this
    exact ih
/-- the row is right by the numbers -/
def Rel (N : Num) (d : Dif) : Prop := ∀ y, lookA N d.2.1 = some y → ∃ x, lookA N d.1 = some x ∧ x ≤ y + d.2.2
theorem stepM_cases (N S : Num) (b : Bool) (i : Int) (d : Dif) : (stepM (N, S, b) i d = (N, S, b) ∧ Rel N d) ∨
    ∃ y, lookA N d.2.1 = some y ∧ (∀ x, lookA N d.1 = some x → y + d.2.2 < x) ∧ stepM (N, S, b) i d = (putA N d.1 (y + d.2.2), putA S d.1 i, true) := by
  rcases h1 : lookA N d.2.1 with _ | y
  · exact .inl ⟨stepM_none h1, fun y h => by rw [h1] at h; cases h⟩
  · rcases h2 : lookA N d.1 with _ | x
    · exact .inr ⟨y, rfl, nofun, stepM_new h1 h2⟩
    · by_cases h3 : y + d.2.2 < x
      · exact .inr ⟨y, rfl, fun z h => by cases h; exact h3, stepM_lt h1 h2 h3⟩
      · refine .inl ⟨stepM_ge h1 h2 h3, fun z h => ⟨x, h2, ?_⟩⟩
        rw [h1] at h
        cases h
        omega
theorem roundM_false {i : Nat} : ∀ {ds : List Dif} {N S : Num}, (roundM (N, S, false) i ds).2.2 = false → (roundM (N, S, false) i ds).1 = N ∧ (roundM (N, S, false) i ds).2.1 = S ∧ ∀ d ∈ ds, Rel N d := by
  intro ds
  induction ds generalizing i with
  | nil => intro N S _; exact ⟨rfl, rfl, fun _ h => by cases h⟩
  | cons d ds ih =>
    intro N S h
    rw [roundM] at h ⊢
    rcases stepM_cases N S false i d with ⟨e, r⟩ | ⟨y, h1, h2, e⟩
    · rw [e] at h ⊢
      obtain ⟨a, b, c⟩ := ih h
      exact ⟨a, b, fun x hx => by rcases List.mem_cons.mp hx with rfl | hx; exact r; exact c x hx⟩
    · rw [e, roundM_true] at h
      cases h
/-! ### the last rounds -/
structure Iv (ds : List Dif) (N S : Num) (b : Bool) (L : PK → Nat) (r i : Nat) : Prop where
  step : ∀ p j, lookA S p = some j → ∃ d, 0 ≤ j ∧ ds[j.toNat]? = some d ∧ d.1 = p ∧ (∃ x y, lookA N p = some x ∧ lookA N d.2.1 = some y ∧ y + d.2.2 ≤ x) ∧ L p ≤ L d.2.1 + 1
  le : ∀ p, L p ≤ r
  key : ∀ p, 1 ≤ L p → p ∈ S.map (·.1)
  old : ∀ t d, ds[t]? = some d → Rel N d ∨ (if t < i then r ≤ L d.2.1 else r ≤ L d.2.1 + 1)
  nd : (S.map (·.1)).Nodup
  ch : b = true → ∃ k, L k = r
theorem Iv.next {ds : List Dif} {N S : Num} {b : Bool} {L : PK → Nat} {r i : Nat} {d : Dif} (I : Iv ds N S b L r i) (hr : 1 ≤ r) (hd : ds[i]? = some d) : ∃ L', Iv ds (stepM (N, S, b) i d).1 (stepM (N, S, b) i d).2.1 (stepM (N, S, b) i d).2.2 L' r (i + 1) := by
  rcases stepM_cases N S b i d with ⟨e, rl⟩ | ⟨y, h1, h2, e⟩
  · rw [e]
    refine ⟨L, I.step, I.le, I.key, fun t d' ht => ?_, I.nd, I.ch⟩
    by_cases q : t = i
    · subst q
      rw [hd] at ht
      cases ht
      exact .inl rl
    · rcases I.old t d' ht with h | h
      · exact .inl h
      · refine .inr ?_
        by_cases c : t < i
        · rw [if_pos c] at h; rw [if_pos (by omega)]; exact h
        · rw [if_neg c] at h; rw [if_neg (by omega)]; exact h
  · rw [e]
    -- the changed point
    have nl : r ≤ L d.2.1 + 1 := by
      rcases I.old i d hd with h | h
      · obtain ⟨x, hx, hle⟩ := h y h1
        have := h2 x hx
        omega
      · rw [if_neg (Nat.lt_irrefl i)] at h; exact h
    have lk : ∀ p, lookA (putA N d.1 (y + d.2.2)) p = if p = d.1 then some (y + d.2.2) else lookA N p := fun p => lookA_put
    have dec : ∀ p x, lookA N p = some x → ∃ x', lookA (putA N d.1 (y + d.2.2)) p = some x' ∧ x' ≤ x := fun p x hx => by
      rw [lk]
      by_cases q : p = d.1
      · rw [if_pos q]
        subst q
        exact ⟨_, rfl, Int.le_of_lt (h2 x hx)⟩
      · rw [if_neg q]; exact ⟨x, hx, Int.le_refl _⟩
    have Lge : ∀ p, L p ≤ (if p = d.1 then r else L p) := fun p => by
      by_cases q : p = d.1
      · rw [if_pos q]; exact I.le p
      · rw [if_neg q]; exact Nat.le_refl _
    refine ⟨fun p => if p = d.1 then r else L p, fun p j hj => ?_, fun p => ?_, fun p hp => ?_, fun t d' ht => ?_, putA_nodup I.nd, fun _ => ⟨d.1, if_pos rfl⟩⟩
    · rw [lookA_put] at hj
      by_cases q : p = d.1
      · rw [if_pos q] at hj
        cases hj
        subst q
        obtain ⟨y', hy', hle⟩ := dec d.2.1 y h1
        refine ⟨d, Int.natCast_nonneg _, by rw [Int.toNat_natCast]; exact hd, rfl, ⟨_, y', by rw [lk, if_pos rfl], hy', by omega⟩, ?_⟩
        rw [if_pos rfl]
        exact Nat.le_trans nl (Nat.succ_le_succ (Lge _))
      · rw [if_neg q] at hj
        obtain ⟨d', j0, hd', e1, ⟨x, y', hx, hy', hle⟩, hL⟩ := I.step p j hj
        obtain ⟨y2, hy2, hle2⟩ := dec _ _ hy'
        refine ⟨d', j0, hd', e1, ⟨x, y2, by rw [lk, if_neg q]; exact hx, hy2, by omega⟩, ?_⟩
        rw [if_neg q]
        exact Nat.le_trans hL (Nat.succ_le_succ (Lge _))
    · by_cases q : p = d.1
      · rw [if_pos q]; exact Nat.le_refl _
      · rw [if_neg q]; exact I.le p
    · rw [putA_mem]
      by_cases q : p = d.1
      · exact .inl q
      · rw [if_neg q] at hp; exact .inr (I.key p hp)
    · by_cases q : d'.2.1 = d.1
      · refine .inr ?_
        rw [if_pos q]
        by_cases c : t < i + 1
        · rw [if_pos c]; exact Nat.le_refl _
        · rw [if_neg c]; exact Nat.le_succ _
      · rw [if_neg q]
        by_cases ti : t = i
        · subst ti
          rw [hd] at ht
          cases ht
          refine .inl fun y' hy' => ?_
          rw [lk, if_neg q, h1] at hy'
          cases hy'
          exact ⟨_, by rw [lk, if_pos rfl], Int.le_refl _⟩
        · rcases I.old t d' ht with h | h
          · refine .inl fun y' hy' => ?_
            rw [lk, if_neg q] at hy'
            obtain ⟨x, hx, hle⟩ := h y' hy'
            obtain ⟨x', hx', hle'⟩ := dec _ _ hx
            exact ⟨x', hx', by omega⟩
          · refine .inr ?_
            by_cases c : t < i
            · rw [if_pos c] at h; rw [if_pos (by omega)]; exact h
            · rw [if_neg c] at h; rw [if_neg (by omega)]; exact h
theorem Iv.round {ds : List Dif} {r : Nat} (hr : 1 ≤ r) : ∀ (l : List Dif) (i : Nat) (N S : Num) (b : Bool) (L : PK → Nat), Iv ds N S b L r i → (∀ t, l[t]? = ds[i + t]?) →
    ∃ L', Iv ds (roundM (N, S, b) i l).1 (roundM (N, S, b) i l).2.1 (roundM (N, S, b) i l).2.2 L' r (i + l.length)
  | [], i, N, S, b, L, I, _ => ⟨L, I⟩
  | d :: l, i, N, S, b, L, I, h => by
    have hd : ds[i]? = some d := by have := h 0; simpa using this.symm
    obtain ⟨L', I'⟩ := I.next hr hd
    rw [roundM]
    obtain ⟨L2, I2⟩ := Iv.round hr l (i + 1) _ _ _ L' I' fun t => by
      have := h (t + 1)
      rw [List.getElem?_cons_succ] at this
      rw [this]; congr 1; omega
    refine ⟨L2, ?_⟩
    rw [List.length_cons, show i + (l.length + 1) = i + 1 + l.length by omega]
    exact I2
theorem Iv.improved {ds : List Dif} {N S : Num} {L : PK → Nat} {r : Nat} (hr : 1 ≤ r) (I : Iv ds N S false L r 0) : ∃ L', Iv ds (improvedM ds N S).1 (improvedM ds N S).2.1 (improvedM ds N S).2.2 L' r ds.length := by
  obtain ⟨L', h⟩ := Iv.round hr ds 0 N S false L I fun t => by rw [Nat.zero_add]
  rw [Nat.zero_add] at h
  exact ⟨L', h⟩
theorem Iv.turn {ds : List Dif} {N S : Num} {b : Bool} {L : PK → Nat} {r : Nat} (I : Iv ds N S b L r ds.length) : Iv ds N S false L (r + 1) 0 where
  step := I.step
  le p := Nat.le_succ_of_le (I.le p)
  key := I.key
  old t d ht := by
    rcases I.old t d ht with h | h
    · exact .inl h
    · rw [if_pos (List.getElem?_eq_some_iff.mp ht).1] at h
      exact .inr (by rw [if_neg (Nat.not_lt_zero t)]; omega)
  nd := I.nd
  ch h := by cases h
theorem Iv.start {ds : List Dif} {N : Num} : Iv ds N [] false (fun _ => 0) 1 0 where
  step p j h := by rw [lookA_nil] at h; cases h
  le p := Nat.zero_le _
  key p h := absurd h (by decide)
  old t d ht := .inr (by rw [if_neg (Nat.not_lt_zero t)]; exact Nat.le_refl _)
  nd := List.nodup_nil
  ch h := by cases h
/-- what holds at the end of the rounds -/
theorem settled_iv {ds : List Dif} : ∀ (k r : Nat) (N S : Num) (L : PK → Nat), 1 ≤ r → (∃ x, L x + 1 = r) → Iv ds N S false L r 0 → ∃ L' r' , Iv ds (settledM ds k N S).1 (settledM ds k N S).2.1 false L' r' 0 ∧
    ((settledM ds k N S).2.2 = true → r + k = r' ∧ ∃ x, L' x + 1 = r')
  | 0, r, N, S, L, hr, hx, I => ⟨L, r, I, fun _ => ⟨rfl, hx⟩⟩
  | k + 1, r, N, S, L, hr, hx, I => by
    obtain ⟨L', I'⟩ := I.improved hr
    rw [settledM]
    by_cases c : (improvedM ds N S).2.2 = true
    · rw [if_pos c]
      obtain ⟨x, hx⟩ := I'.ch c
      obtain ⟨L2, r2, I2, h2⟩ := settled_iv k (r + 1) _ _ L' (Nat.le_succ_of_le hr) ⟨x, by rw [hx]⟩ I'.turn
      refine ⟨L2, r2, I2, fun e => ?_⟩
      obtain ⟨e1, e2⟩ := h2 e
      exact ⟨by omega, e2⟩
    · rw [if_neg c]
      exact ⟨L', r + 1, I'.turn, fun h => by cases h⟩
/-- from a point whose last round is great the steps go on -/
theorem ch_last {ds : List Dif} {N S : Num} {L : PK → Nat} {r : Nat} (I : Iv ds N S false L r 0) {x : PK} : ∀ n, n + 1 ≤ L x → L x ≤ L (chM ds S n x) + n
  | 0, _ => Nat.le_refl _
  | n + 1, h => by
    have ih := ch_last I (x := x) n (by omega)
    have hk := I.key (chM ds S n x) (by omega)
    obtain ⟨j, hj⟩ := mem_look hk
    obtain ⟨d, _, hd, _, _, hL⟩ := I.step _ j hj
    have e : chM ds S (n + 1) x = d.2.1 := by
      rw [chM, nxM, hj]
      dsimp only
      rw [hd]
    rw [e]; omega
/-- steps that go on longer than there are points never end -/
theorem cyc_of {ds : List Dif} {S : Num} {st : PK} {m : Nat} (hm : S.length < m) (h : ∀ n, n < m → chM ds S n st ∈ S.map (·.1)) : HasCyc ds S := by
  refine ⟨st, h 0 (by omega), fun n => ?_⟩
  -- two of the first m are alike
  have ⟨i, j, ij, jm, e⟩ : ∃ i j, i < j ∧ j < m ∧ chM ds S i st = chM ds S j st := by
    apply Classical.byContradiction
    intro hno
    have nd : ((List.range m).map fun n => chM ds S n st).Nodup := by
      rw [List.nodup_iff_pairwise_ne, List.pairwise_map, List.pairwise_iff_getElem]
      intro i j hi hj hij e
      rw [List.length_range] at hi hj
      rw [List.getElem_range, List.getElem_range] at e
      exact hno ⟨i, j, hij, hj, e⟩
    have := nodup_len nd (r := S.map (·.1)) fun a ha => by
      obtain ⟨n, hn, rfl⟩ := List.mem_map.mp ha
      exact h n (List.mem_range.mp hn)
    simp at this
    omega
  rcases Nat.lt_or_ge n j with q | q
  · exact h n (by omega)
  · have per : chM ds S (j - i) (chM ds S i st) = chM ds S i st := by rw [← chM_add, show j - i + i = j by omega, e]
    have e1 : chM ds S n st = chM ds S ((n - i) % (j - i) + i) st := by
      rw [show n = (n - i) + i by omega, chM_add, chM_add, show n - i + i - i = n - i by omega]
      conv => lhs; rw [← Nat.mod_add_div (n - i) (j - i), chM_add, per_mod per]
    rw [e1]
    have := Nat.mod_lt (n - i) (show 0 < j - i by omega)
    exact h _ (by omega)
theorem settled_keys {ds : List Dif} {N S : Num} {L : PK → Nat} {r : Nat} (I : Iv ds N S false L r 0) {ks : List PK} (hks : PtsOf ds ks) : ∀ p ∈ S.map (·.1), p ∈ ks := fun p hp => by
  obtain ⟨j, hj⟩ := mem_look hp
  obtain ⟨d, _, hd, e, _⟩ := I.step p j hj
  rw [hks.2, ← e]
  exact List.mem_cons_of_mem _ (List.mem_flatMap.mpr ⟨d, List.mem_of_getElem? hd, by simp⟩)
theorem settled_cyc {ds : List Dif} {ks : List PK} (hks : PtsOf ds ks) {N : Num} {k : Nat} (hk : ks.length < k) (h : (settledM ds k N []).2.2 = true) : HasCyc ds (settledM ds k N []).2.1 := by
  obtain ⟨L, r, I, hr⟩ := settled_iv k 1 N [] _ (Nat.le_refl 1) ⟨zeroP, rfl⟩ Iv.start
  obtain ⟨e, x, hx⟩ := hr h
  have hl : ((settledM ds k N []).2.1.map (·.1)).length ≤ ks.length := nodup_len I.nd (settled_keys I hks)
  rw [List.length_map] at hl
  refine cyc_of (st := x) (m := k) (by omega) fun n hn => ?_
  have := ch_last I n (x := x) (by omega)
  exact I.key _ (by omega)
theorem settled_ok {ds : List Dif} {N : Num} {k : Nat} : StepOk ds (settledM ds k N []).2.1 ∧ ((settledM ds k N []).2.1.map (·.1)).Nodup ∧ ∀ ks, PtsOf ds ks → ∀ p ∈ (settledM ds k N []).2.1.map (·.1), p ∈ ks := by
  obtain ⟨L, r, I, hr⟩ := settled_iv k 1 N [] _ (Nat.le_refl 1) ⟨zeroP, rfl⟩ Iv.start
  refine ⟨fun p j hj => ?_, I.nd, fun ks hks => settled_keys I hks⟩
  obtain ⟨d, j0, hd, _⟩ := I.step p j hj
  exact ⟨j0, (List.getElem?_eq_some_iff.mp hd).1⟩
end Mk


set_option Elab.async false
set_option linter.all false
set_option maxRecDepth 100000
set_option maxHeartbeats 400000
/-! the plain law of rounds: numbers that fit, tightest numbers -/
namespace Mk
open PySem PySem.Spec PyProof.Rows L2
def Sol (ds : List Dif) (f : PK → Int) : Prop := ∀ d ∈ ds, f d.1 - f d.2.1 ≤ d.2.2
def FitM (ds : List Dif) : Prop := ∃ f, Sol ds f
/-! ### what each row keeps, the rounds keep -/
theorem round_ind {ds : List Dif} {Pr : Num → Num → Prop} (hs : ∀ N S b i d, ds[i]? = some d → Pr N S → Pr (stepM (N, S, b) (i : Nat) d).1 (stepM (N, S, b) (i : Nat) d).2.1) :
    ∀ (l : List Dif) (i : Nat) (N S : Num) (b : Bool), (∀ t, l[t]? = ds[i + t]?) → Pr N S → Pr (roundM (N, S, b) i l).1 (roundM (N, S, b) i l).2.1
  | [], _, _, _, _, _, h => h
  | d :: l, i, N, S, b, e, h => by
    rw [roundM]
    have hd : ds[i]? = some d := by have := e 0; simpa using this.symm
    refine round_ind hs l (i + 1) _ _ _ (fun t => ?_) (hs N S b i d hd h)
    have := e (t + 1)
    rw [List.getElem?_cons_succ] at this
    rw [this]; congr 1; omega
theorem settled_ind {ds : List Dif} {Pr : Num → Num → Prop} (hs : ∀ N S b i d, ds[i]? = some d → Pr N S → Pr (stepM (N, S, b) (i : Nat) d).1 (stepM (N, S, b) (i : Nat) d).2.1) :
    ∀ (k : Nat) (N S : Num), Pr N S → Pr (settledM ds k N S).1 (settledM ds k N S).2.1
  | 0, _, _, h => h
  | k + 1, N, S, h => by
    have := round_ind hs ds 0 N S false (fun t => by rw [Nat.zero_add]) h
    rw [settledM]
    by_cases c : (improvedM ds N S).2.2 = true
    · rw [if_pos c]
      exact settled_ind hs k _ _ this
    · rw [if_neg c]
      exact this
theorem settled_rel {ds : List Dif} : ∀ (k : Nat) (N S : Num), (settledM ds k N S).2.2 = false → ∀ d ∈ ds, Rel (settledM ds k N S).1 d
  | 0, _, _, h => by cases h
  | k + 1, N, S, h => by
    rw [settledM] at h ⊢
    by_cases c : (improvedM ds N S).2.2 = true
    · rw [if_pos c] at h ⊢
      exact settled_rel k _ _ h
    · rw [if_neg c]
      have c := Bool.not_eq_true _ ▸ c
      obtain ⟨a, _, b⟩ := roundM_false (i := 0) (ds := ds) (N := N) (S := S) c
      show ∀ d ∈ ds, Rel (roundM (N, S, false) 0 ds).1 d
      rw [a]
      exact b
/-! ### where something fits the steps end -/
def prv (ds : List Dif) (S : Num) (p : PK) : Option PK := (lookA S p).bind fun i => ds[i.toNat]?.map (·.2.1)
inductive EndsM (nx : PK → Option PK) : PK → Prop
  | mk {p : PK} : (∀ j, nx p = some j → EndsM nx j) → EndsM nx p
inductive ReachM (nx : PK → Option PK) : PK → PK → Prop
  | refl {p : PK} : ReachM nx p p
  | step {p q r : PK} : nx p = some q → ReachM nx q r → ReachM nx p r
theorem ends_set {nx nx' : PK → Option PK} {k j : PK} (h : ∀ p, EndsM nx p) (e : ∀ p, nx' p = if p = k then some j else nx p) (hr : ¬ ReachM nx j k) : ∀ p, EndsM nx' p := by
  have h1 : ∀ p, EndsM nx p → ¬ ReachM nx p k → EndsM nx' p := by
    intro p hp
    induction hp with
    | @mk p _ ih =>
      intro hn
      refine .mk fun q hq => ?_
      rw [e] at hq
      by_cases c : p = k
      · exact absurd (c ▸ ReachM.refl) hn
      · rw [if_neg c] at hq
        exact ih q hq fun z => hn (.step hq z)
  intro p
  have hp := h p
  induction hp with
  | @mk p _ ih =>
    refine .mk fun q hq => ?_
    rw [e] at hq
    by_cases c : p = k
    · rw [if_pos c] at hq
      cases hq
      exact h1 j (h j) hr
    · rw [if_neg c] at hq
      exact ih q hq
structure Av (ds : List Dif) (f : PK → Int) (N S : Num) : Prop where
  step : ∀ p j, prv ds S p = some j → ∃ x y, lookA N p = some x ∧ lookA N j = some y ∧ y - f j ≤ x - f p
  ends : ∀ p, EndsM (prv ds S) p
theorem Av.reach {ds : List Dif} {f : PK → Int} {N S : Num} (A : Av ds f N S) {p q : PK} (h : ReachM (prv ds S) p q) : ∀ {y : Int}, lookA N p = some y → ∃ x, lookA N q = some x ∧ x - f q ≤ y - f p := by
  induction h with
  | refl => intro y hy; exact ⟨y, hy, Int.le_refl _⟩
  | step h _ ih =>
    intro y hy
    obtain ⟨x, z, hx, hz, hle⟩ := A.step _ _ h
    rw [hx] at hy
    cases hy
    obtain ⟨x', h1, h2⟩ := ih hz
    exact ⟨x', h1, by omega⟩
theorem Av.next {ds : List Dif} {f : PK → Int} (hf : Sol ds f) (N S : Num) (b : Bool) (i : Nat) (d : Dif) (hd : ds[i]? = some d) (A : Av ds f N S) : Av ds f (stepM (N, S, b) i d).1 (stepM (N, S, b) i d).2.1 := by
  rcases stepM_cases N S b i d with ⟨e, _⟩ | ⟨y, h1, h2, e⟩
  · rw [e]; exact A
  · rw [e]
    have hw := hf d (List.mem_of_getElem? hd)
    have hne : d.2.1 ≠ d.1 := fun z => by
      have := h2 y (z ▸ h1)
      rw [z] at hw
      omega
    have pr : ∀ p, prv ds (putA S d.1 i) p = if p = d.1 then some d.2.1 else prv ds S p := fun p => by
      unfold prv
      rw [lookA_put]
      by_cases c : p = d.1
      · rw [if_pos c, if_pos c, Option.bind_some, Int.toNat_natCast, hd]; rfl
      · rw [if_neg c, if_neg c]
    refine ⟨fun p j hj => ?_, ends_set A.ends pr fun hr => ?_⟩
    · rw [pr] at hj
      by_cases c : p = d.1
      · rw [if_pos c] at hj
        cases hj
        subst c
        exact ⟨y + d.2.2, y, by rw [lookA_put, if_pos rfl], by rw [lookA_put, if_neg hne]; exact h1, by omega⟩
      · rw [if_neg c] at hj
        obtain ⟨x, z, hx, hz, hle⟩ := A.step p j hj
        by_cases c2 : j = d.1
        · subst c2
          have := h2 z hz
          exact ⟨x, y + d.2.2, by rw [lookA_put, if_neg c]; exact hx, by rw [lookA_put, if_pos rfl], by omega⟩
        · exact ⟨x, z, by rw [lookA_put, if_neg c]; exact hx, by rw [lookA_put, if_neg c2]; exact hz, hle⟩
    · obtain ⟨x, hx, hle⟩ := A.reach hr h1
      have := h2 x hx
      omega
theorem no_cyc {ds : List Dif} {S : Num} (ok : StepOk ds S) (h : ∀ p, EndsM (prv ds S) p) : ¬ HasCyc ds S := by
  rintro ⟨st, _, hc⟩
  have : ∀ p, EndsM (prv ds S) p → ¬ ∀ n, chM ds S n p ∈ S.map (·.1) := by
    intro p hp
    induction hp with
    | @mk p _ ih =>
      intro hn
      obtain ⟨i, hi⟩ := mem_look (hn 0)
      have hi : lookA S p = some i := hi
      obtain ⟨_, il⟩ := ok p i hi
      have e : nxM ds S p = (ds[i.toNat]).2.1 := by
        unfold nxM
        rw [hi]
        dsimp only
        rw [List.getElem?_eq_getElem il]
      refine ih (nxM ds S p) ?_ fun n => ?_
      · unfold prv
        rw [hi, e, Option.bind_some, List.getElem?_eq_getElem il]; rfl
      · have := hn (n + 1)
        rw [chM_add n (b := 1)] at this
        exact this
  exact this st (h st) hc
theorem settled_fit {ds : List Dif} {ks : List PK} (hks : PtsOf ds ks) {N : Num} {k : Nat} (hk : ks.length < k) (hf : FitM ds) : (settledM ds k N []).2.2 = false := by
  rw [Bool.eq_false_iff]
  intro h
  obtain ⟨f, hf⟩ := hf
  have A := settled_ind (ds := ds) (Pr := Av ds f) (fun N S b i d hd A => A.next hf N S b i d hd) k N [] ⟨fun p j h => (by rw [prv, lookA_nil] at h; cases h), fun p => EndsM.mk (fun j h => (by rw [prv, lookA_nil] at h; cases h))⟩
  exact no_cyc settled_ok.1 A.ends (settled_cyc hks hk h)
/-! ### numbers that are had stay, and fall -/
theorem keep_some {ds : List Dif} {p : PK} {k : Nat} {N S : Num} {x : Int} (h : lookA N p = some x) : ∃ x', lookA (settledM ds k N S).1 p = some x' ∧ x' ≤ x := by
  refine settled_ind (ds := ds) (Pr := fun N _ => ∃ x', lookA N p = some x' ∧ x' ≤ x) (fun N S b i d _ hN => ?_) k N S ⟨x, h, Int.le_refl _⟩
  obtain ⟨x', h1, h2⟩ := hN
  rcases stepM_cases N S b i d with ⟨e, _⟩ | ⟨y, hy, hlt, e⟩
  · rw [e]; exact ⟨x', h1, h2⟩
  · rw [e]
    dsimp only
    rw [lookA_put]
    by_cases c : p = d.1
    · rw [if_pos c]
      have := hlt x' (c ▸ h1)
      exact ⟨_, rfl, by omega⟩
    · rw [if_neg c]; exact ⟨x', h1, h2⟩
def zerosM (ks : List PK) : Num := ks.map fun k => (k, 0)
theorem zeros_look {ks : List PK} {k : PK} (h : k ∈ ks) : lookA (zerosM ks) k = some 0 := by
  induction ks with
  | nil => cases h
  | cons x ks ih =>
    rw [zerosM, List.map_cons, lookA_cons]
    by_cases c : x = k
    · rw [if_pos c]
    · rw [if_neg c]
      exact ih ((List.mem_cons.mp h).resolve_left fun z => c z.symm)
theorem pts_l {ds : List Dif} {ks : List PK} (hks : PtsOf ds ks) {d : Dif} (hd : d ∈ ds) : d.1 ∈ ks := (hks.2 _).mpr (List.mem_cons_of_mem _ (List.mem_flatMap.mpr ⟨d, hd, by simp⟩))
theorem pts_r {ds : List Dif} {ks : List PK} (hks : PtsOf ds ks) {d : Dif} (hd : d ∈ ds) : d.2.1 ∈ ks := (hks.2 _).mpr (List.mem_cons_of_mem _ (List.mem_flatMap.mpr ⟨d, hd, by simp⟩))
/-- the numbers of the rounds fit, if the rounds end -/
theorem settled_sol {ds : List Dif} {ks : List PK} (hks : PtsOf ds ks) {k : Nat} (h : (settledM ds k (zerosM ks) []).2.2 = false) : Sol ds fun p => (lookA (settledM ds k (zerosM ks) []).1 p).getD 0 := by
  intro d hd
  obtain ⟨x, hx, _⟩ := keep_some (ds := ds) (k := k) (S := []) (zeros_look (pts_l hks hd))
  obtain ⟨y, hy, _⟩ := keep_some (ds := ds) (k := k) (S := []) (zeros_look (pts_r hks hd))
  obtain ⟨x', hx', hle⟩ := settled_rel k _ _ h d hd y hy
  rw [hx] at hx'
  cases hx'
  dsimp only
  rw [hx, hy]
  show x - y ≤ d.2.2
  omega
theorem settled_iff {ds : List Dif} {ks : List PK} (hks : PtsOf ds ks) {k : Nat} (hk : ks.length < k) : (settledM ds k (zerosM ks) []).2.2 = false ↔ FitM ds :=
  ⟨fun h => ⟨_, settled_sol hks h⟩, fun h => settled_fit hks hk h⟩
/-- what the tightest number is -/
def BoundM (ds : List Dif) (one other : PK) : Option Int → Prop
  | some b => (∀ f, Sol ds f → f one - f other ≤ b) ∧ ∃ f, Sol ds f ∧ f one - f other = b
  | none => ∀ B : Int, ∃ f, Sol ds f ∧ B < f one - f other
theorem settled_bound {ds : List Dif} {ks : List PK} (hks : PtsOf ds ks) {k : Nat} (hk : ks.length < k) (hf : FitM ds) (one other : PK) : BoundM ds one other (lookA (settledM ds k [(other, 0)] []).1 one) := by
  have hfl := settled_fit hks (N := [(other, 0)]) hk hf
  have rel := settled_rel k _ _ hfl
  have low : ∀ f, Sol ds f → ∀ p x, lookA (settledM ds k [(other, 0)] []).1 p = some x → f p - f other ≤ x := by
    intro f hs
    refine settled_ind (ds := ds) (Pr := fun N _ => ∀ p x, lookA N p = some x → f p - f other ≤ x) (fun N S b i d hd hN => ?_) k _ _ fun p x h => ?_
    · rcases stepM_cases N S b i d with ⟨e, _⟩ | ⟨y, hy, hlt, e⟩
      · rw [e]; exact hN
      · rw [e]
        intro p x h
        dsimp only at h
        rw [lookA_put] at h
        by_cases c : p = d.1
        · rw [if_pos c] at h
          cases h
          have h1 := hN _ _ hy
          have h2 := hs d (List.mem_of_getElem? hd)
          rw [c]; omega
        · rw [if_neg c] at h; exact hN p x h
    · rw [lookA_cons, lookA_nil] at h
      by_cases c : other = p
      · rw [if_pos c] at h
        cases h
        rw [c]; omega
      · rw [if_neg c] at h; cases h
  obtain ⟨o, ho, hole⟩ := keep_some (ds := ds) (k := k) (S := []) (N := [(other, 0)]) (p := other) (x := 0) (by rw [lookA_cons, if_pos rfl])
  generalize hN : (settledM ds k [(other, 0)] []).1 = N at *
  obtain ⟨g, hg⟩ := hf
  have o0 : o = 0 := by have := low g hg other o ho; omega
  -- the numbers, and g raised by M where there is none
  have sh : ∀ M : Int, (∀ d ∈ ds, (lookA N d.2.1).isNone = true → ∀ x, lookA N d.1 = some x → x - d.2.2 - g d.2.1 ≤ M) → Sol ds fun p => (lookA N p).getD (g p + M) := by
    intro M hM d hd
    dsimp only
    rcases h1 : lookA N d.2.1 with _ | y
    · rcases h2 : lookA N d.1 with _ | x
      · have := hg d hd
        show g d.1 + M - (g d.2.1 + M) ≤ d.2.2
        omega
      · have := hM d hd (by rw [h1]; rfl) x h2
        show x - (g d.2.1 + M) ≤ d.2.2
        omega
    · obtain ⟨x, hx, hle⟩ := rel d hd y h1
      rw [hx]
      show x - y ≤ d.2.2
      omega
  -- one M is great enough
  have big : ∀ l : List Dif, ∃ M0 : Int, ∀ M, M0 ≤ M → ∀ d ∈ l, (lookA N d.2.1).isNone = true → ∀ x, lookA N d.1 = some x → x - d.2.2 - g d.2.1 ≤ M := by
    intro l
    induction l with
    | nil => exact ⟨0, fun _ _ _ h => by cases h⟩
    | cons d l ih =>
      obtain ⟨M0, h0⟩ := ih
      refine ⟨max M0 ((lookA N d.1).getD 0 - d.2.2 - g d.2.1), fun M hM e he hn x hx => ?_⟩
      rcases List.mem_cons.mp he with rfl | he
      · rw [hx] at hM
        have : x - e.2.2 - g e.2.1 ≤ M := Int.le_trans (Int.le_max_right _ _) hM
        exact this
      · exact h0 M (Int.le_trans (Int.le_max_left _ _) hM) e he hn x hx
  obtain ⟨M0, hM0⟩ := big ds
  rcases h1 : lookA N one with _ | b
  · intro B
    refine ⟨_, sh (max M0 (B - g one + 1)) (hM0 _ (Int.le_max_left _ _)), ?_⟩
    rw [h1, ho, o0]
    have := Int.le_max_right M0 (B - g one + 1)
    show B < g one + max M0 (B - g one + 1) - 0
    omega
  · refine ⟨fun f hs => low f hs one b h1, _, sh M0 (hM0 _ (Int.le_refl _)), ?_⟩
    rw [h1, ho, o0]
    show b - 0 = b
    omega
end Mk


set_option Elab.async false
set_option linter.all false
set_option maxRecDepth 100000
set_option maxHeartbeats 400000
/-! what a told ring has; how great the numbers of the rounds are -/
namespace Mk
open PySem PySem.Spec PyProof.Rows L2
theorem ring_at {ds : List Dif} {S : Num} {rs : List Int} (rm : RingM ds S rs) (ok : StepOk ds S) : rs.length ≤ S.length ∧ ∀ n ∈ rs, 0 ≤ n ∧ n < (ds.length : Int) := by
  obtain ⟨p, m, m0, m1, _, hin, rfl⟩ := rm
  refine ⟨by rw [List.length_map, List.length_range]; exact m1, fun n hn => ?_⟩
  obtain ⟨j, _, rfl⟩ := List.mem_map.mp hn
  obtain ⟨i, hi⟩ := mem_look (hin j)
  obtain ⟨a, b⟩ := ok _ _ hi
  rw [hi]
  show 0 ≤ i ∧ i < _
  omega
/-- all numbers are at most b, without their signs -/
def BB (b : Int) (N : Num) : Prop := ∀ p x, lookA N p = some x → -b ≤ x ∧ x ≤ b
theorem BB.mono {b c : Int} {N : Num} (h : BB b N) (hc : b ≤ c) : BB c N := fun p x e => by
  have := h p x e
  omega
theorem BB.step {N S : Num} {b : Bool} {i c z : Int} {d : Dif} (h : BB c N) (z0 : 0 ≤ z) (hd : -z ≤ d.2.2 ∧ d.2.2 ≤ z) : BB (c + z) (stepM (N, S, b) i d).1 := by
  have put : ∀ y, lookA N d.2.1 = some y → BB (c + z) (putA N d.1 (y + d.2.2)) := fun y hy p x e => by
    rw [lookA_put] at e
    by_cases q : p = d.1
    · rw [if_pos q] at e
      cases e
      have := h _ _ hy
      omega
    · rw [if_neg q] at e
      have := h _ _ e
      omega
  rcases h1 : lookA N d.2.1 with _ | y
  · rw [stepM_none h1]; exact h.mono (by omega)
  · rcases h2 : lookA N d.1 with _ | x
    · rw [stepM_new h1 h2]; exact put y h1
    · by_cases h3 : y + d.2.2 < x
      · rw [stepM_lt h1 h2 h3]; exact put y h1
      · rw [stepM_ge h1 h2 h3]; exact h.mono (by omega)
theorem BB.round {z : Int} (z0 : 0 ≤ z) : ∀ (l : List Dif) (i : Nat) (N S : Num) (b : Bool) (c : Int), (∀ d ∈ l, -z ≤ d.2.2 ∧ d.2.2 ≤ z) → BB c N → BB (c + l.length * z) (roundM (N, S, b) i l).1
  | [], _, N, _, _, c, _, h => by
    rw [roundM]
    exact h.mono (by simp)
  | d :: l, i, N, S, b, c, hl, h => by
    rw [roundM]
    have h1 := h.step (S := S) (b := b) (i := (i : Nat)) z0 (hl d List.mem_cons_self)
    have := BB.round z0 l (i + 1) (stepM (N, S, b) (i : Nat) d).1 (stepM (N, S, b) (i : Nat) d).2.1 (stepM (N, S, b) (i : Nat) d).2.2 (c + z) (fun x hx => hl x (List.mem_cons_of_mem _ hx)) h1
    refine this.mono ?_
    rw [List.length_cons, Int.natCast_add, Int.add_mul]
    omega
theorem BB.settled {ds : List Dif} {z : Int} (z0 : 0 ≤ z) (hl : ∀ d ∈ ds, -z ≤ d.2.2 ∧ d.2.2 ≤ z) : ∀ (k : Nat) (N S : Num) (c : Int), BB c N → BB (c + k * (ds.length * z)) (settledM ds k N S).1
  | 0, N, _, c, h => by
    rw [settledM]
    exact h.mono (by simp)
  | k + 1, N, S, c, h => by
    have h1 := BB.round z0 ds 0 N S false c hl h
    have nn : (0 : Int) ≤ (ds.length : Int) * z := Int.mul_nonneg (by omega) z0
    have nk : (0 : Int) ≤ (k : Int) * ((ds.length : Int) * z) := Int.mul_nonneg (by omega) nn
    have e : ((k + 1 : Nat) : Int) * ((ds.length : Int) * z) = k * (ds.length * z) + ds.length * z := by rw [Int.natCast_add, Int.add_mul]; simp
    rw [settledM]
    by_cases q : (improvedM ds N S).2.2 = true
    · rw [if_pos q]
      refine (BB.settled z0 hl k _ _ _ h1).mono ?_
      omega
    · rw [if_neg q]
      refine BB.mono h1 ?_
      omega
theorem settled_bd {ds : List Dif} {ks : List PK} (hg : GoodDs ds) (k : Nat) (hk : k ≤ 1000) : ∀ p, -(10 ^ 69) < (lookA (settledM ds k (zerosM ks) []).1 p).getD 0 ∧ (lookA (settledM ds k (zerosM ks) []).1 p).getD 0 < 10 ^ 69 := fun p => by
  have h := BB.settled (ds := ds) (z := 10 ^ 60) (by decide) (fun d hd => by have := (hg.2 d hd).2.2; omega) k (zerosM ks) [] 0 (fun p x e => by
    have : ∀ ks : List PK, ∀ x, lookA (zerosM ks) p = some x → x = 0 := fun ks => by
      induction ks with
      | nil => intro x h; cases h
      | cons a ks ih =>
        intro x h
        rw [zerosM, List.map_cons, lookA_cons] at h
        by_cases q : a = p
        · rw [if_pos q] at h; cases h; rfl
        · rw [if_neg q] at h; exact ih x h
    rw [this ks x e]; decide)
  have b1 : (k : Int) * ((ds.length : Int) * 10 ^ 60) ≤ 1000 * (60 * 10 ^ 60) := by
    have l := hg.1
    refine Int.mul_le_mul (by omega) (Int.mul_le_mul_of_nonneg_right (by omega) (by decide)) (Int.mul_nonneg (by omega) (by decide)) (by decide)
  rcases e : lookA (settledM ds k (zerosM ks) []).1 p with _ | x
  · decide
  · have := h p x e
    show -(10 ^ 69) < x ∧ x < 10 ^ 69
    have b2 : (1000 : Int) * (60 * 10 ^ 60) < 10 ^ 69 := by decide
    omega
end Mk


set_option Elab.async false
set_option linter.all false
set_option maxRecDepth 100000
set_option maxHeartbeats 400000
/-! ring_of, fitted, bound_of, fitting, is_fitting, ring, tightest -/
namespace Mk
open PySem PySem.Spec PyProof.Rows L2
section
variable {P : Program} {w : World} {K : PySem.W.Frag} {mg : Str → Option Value} {base : Heap}
/-- {point: .. for point in points} -/
theorem dc_pts {H1 : Hp} {a : Addr} {ks : List PK} {xs : List V} {te : TE} {g : PK → Int} {σ : L2.St} {Q : VK} {j : Nat} (hj : j < σ.length) (hx : H1 a = some (.lst xs)) (pr : Paired (KyV K H1) ks xs) (nd : ks.Nodup) (lk : ks.length ≤ 1000)
    (hval : ∀ k ∈ ks, ∀ x H' (R : VK), Gx H1 H' → KyV K H' k x → R (.int (g k)) H' → te ((σ.set j none).set j (some x)) H' R)
    (q : ∀ H' D, Gx H1 H' → H1 D = none → DicW P w K H' D (IM (ks.map fun k => (k, g k))) → Q (.ref D) H') :
    ∀ D u, H1 D = none → DicW P w K (upd H1 D u) D [] →
      ∃ W : Nat → Nat → Hp → Prop, (∃ m, W 0 m (upd H1 D u)) ∧ ∀ i m H, W i m H → ((Itl K a).stop i H ∧ Q (.ref D) H) ∨
        ((Itl K a).go i H ∧ ∃ Nx : Hp → Prop, (∀ H', Nx H' → ∃ m', m' < m ∧ W (i + 1) m' H') ∧ ∀ x H', (Itl K a).yld i H x H' → gName j x (wipe σ [j]) H' fun σ2 H2 => wipe σ2 [j] = wipe σ [j] ∧ tYes σ2 H2 fun b H3 =>
          if b = true then tVar j σ2 H3 fun y H4 => te σ2 H4 fun z H5 => ∃ kvs k, KyV K H5 k y ∧ DicW P w K H5 D kvs ∧ kvs.length < sizeLine ∧ ∀ u, DicW P w K (upd H5 D u) D (putK kvs k z) → Nx (upd H5 D u) else Nx H3) := by
  intro D u hD hd
  refine dc_it (walk_list (xs := xs)) (fun i H' => Gx H1 H' ∧ DicW P w K H' D (IM ((ks.take i).map fun k => (k, g k)))) ⟨.new hD, by rw [List.take_zero]; exact hd⟩ (fun _ H' _ h => h.1.seqL (.inl (.inl hx))) (fun i x H2 H3 hi hP hY => ?_) (fun H2 hP => ?_)
  · obtain ⟨rfl, hxi⟩ := hY
    obtain ⟨gg, dd⟩ := hP
    obtain ⟨k, hk, kv⟩ := pair_at pr hxi
    have kv := kv.keep gg.tk
    refine ⟨?_, ?_⟩
    · show ((σ.set j none).set j (some x)).set j none = σ.set j none
      rw [List.set_set, List.set_set]
    · have gj : ((σ.set j none).set j (some x))[j]? = some (some x) := by rw [List.set_set, List.getElem?_set_self hj]
      refine ⟨x, gj, hval k (List.mem_of_getElem? hk) x H3 _ gg kv ?_⟩
      have nk : k ∉ ks.take i := fun z => by
        obtain ⟨n, hn, e⟩ := List.mem_iff_getElem.mp z
        rw [List.length_take] at hn
        rw [List.getElem_take] at e
        obtain ⟨il, e2⟩ := List.getElem?_eq_some_iff.mp hk
        exact (List.pairwise_iff_getElem.mp (List.nodup_iff_pairwise_ne.mp nd)) n i (by omega) il (by omega) (e.trans e2.symm)
      refine ⟨_, k, kv, dd, line_lt (m := 1000) (by rw [VM_len, List.length_map]; exact take_len lk), fun u2 h2 => ⟨gg.mut hD, ?_⟩⟩
      rw [putK_new] at h2
      · rw [take_s hk, List.map_append, IM, VM, List.map_append]
        exact h2
      · rw [IM, VM, List.map_map, List.map_map]
        intro z
        obtain ⟨n, a, b⟩ := List.mem_map.mp z
        exact nk (by rw [← b]; exact a)
  · obtain ⟨gg, dd⟩ := hP
    rw [← Paired.length pr, List.take_length] at dd
    exact q H2 D gg hD dd
def spRof (K : PySem.W.Frag) : Sp := fun vs H Q _ => ∃ v ds, vs = [v] ∧ DsV K H ds v ∧ GoodDs ds ∧ (FitM ds → ∀ H', Gx H H' → Q .non H') ∧ (¬ FitM ds → ∀ H' p (rs : List Int), Gx H H' → H p = none → SqT K H' p (rs.map V.int) → rs.length ≤ 200 → (∀ n ∈ rs, 0 ≤ n ∧ n < (ds.length : Int)) → Q (.ref p) H')
theorem C_ring_of (T : Tops mg) (D : Def K mg "ring_of" s_ring_of ["differences"]) (C_points_of : Cal P w K mg base "points_of" 1 ["differences"] (spPts K)) (C_settled : Cal P w K mg base "settled" 2 ["differences", "numbers"] (spSet P w K)) (C_ring_in : Cal P w K mg base "ring_in" 1 ["differences", "steps"] (spRin P w K)) : Cal P w K mg base "ring_of" 3 ["differences"] (spRof K) := by
  refine Cal.of D sc_ring_of (fun vs H Q E h => ?_) (fun f cdv A outer s H vs Q E hr h => ?_)
  · obtain ⟨v, ds, rfl, _⟩ := h; rfl
  · obtain ⟨v, ds, rfl, hv, hg, q1, q2⟩ := h
    have hu := hu_of hr
    have h0 := hr.units0
    refine ⟨_, (pss_cons (ps_asg (pe_cal C_settled hr (by decide) (by rfl) (pa_cons (pv 0) (pa_cons (pe_dcP h0 (own := [("point", 3)]) rfl sc_ring_of.nd (pi_list (pe_cal C_points_of hr (by decide) (by rfl) (pa_cons (pv 0) pa_nil))) (blkOk_by (own := [("point", 3)]) (N := N_ring_of) (sc := defScope s_ring_of) (by decide +kernel)) (fun _ _ _ _ _ => (pg_name (i := 3) sc_ring_of.nd rfl (Or.inl rfl))) (fun _ _ _ _ _ => pts_nil) (fun _ _ _ _ _ => (pv 3)) (fun _ _ _ _ _ => pe_int)) pa_nil))) (pg_tup rfl (pgs_cons (pg_name (i := 1) sc_ring_of.nd rfl (Or.inl rfl)) (pgs_cons (pg_name (i := 2) sc_ring_of.nd rfl (Or.inl rfl)) pgs_nil))))
      (pss_one (ps_ret (pe_ifExp (pt_val (pv 2)) (pe_cal C_ring_in hr (by decide) (by rfl) (pa_cons (pv 0) (pa_cons (pv 1) pa_nil))) pe_non)))), ?_⟩
    simp only [cxOf, Cx.nox, L2.start, tRet, tAndV, tOrV, tNotV, tCB, tCons, tNil, tVar, tC, tOp, tUn, tChain, tIfS, tTest, tSeq, tNext, tB, tOr, tAnd, tNot, tAsg, tDrop, tCall, rI0, rI, rU, List.cons_append, List.nil_append, List.append_nil, List.map_cons, List.map_nil, List.length_cons, List.length_nil, Nat.reduceAdd, Nat.reduceSub, List.replicate_succ, List.replicate_zero, List.getElem?_cons_zero, List.getElem?_cons_succ, Option.some.injEq, exists_eq_left, exists_eq_left', exists_eq_right, V.int.injEq, V.bl.injEq, V.str.injEq, V.ref.injEq, true_and, and_true, exists_and_left, if_true, if_false, gTup, gCons, gNil, gSub, gName, Mk.rSetD, List.set_cons_zero, List.set_cons_succ, Bool.false_eq_true, List.cons.injEq, Bool.not_true, Bool.not_false, eq_self, decide_true, decide_false, c3, N_ring_of]
    refine (?_ : tDcP P w K _ _ _ _ _ _ _ _ ?QQ)
    refine ⟨_, rfl, v, ds, rfl, hv, hg, fun H1 a ks g1 ha plv pts => ?_⟩
    obtain ⟨xs, hx, pr⟩ := plv
    have lks : ks.length ≤ 121 := by
      refine Nat.le_trans (nodup_len pts.1 (fun k hk => (pts.2 k).mp hk)) ?_
      have := hg.1
      rw [allPts_len]; omega
    refine ⟨a, rfl, ⟨_, .inl (.inl hx)⟩, ?_⟩
    refine dc_pts (P := P) (w := w) (Q := ?QQ) (te := tC (.int 0)) (j := 3) (σ := [some v, none, none, none]) (Nat.le_refl 4) hx pr pts.1 (Nat.le_trans lks (by decide)) (g := fun _ => 0) (fun _ _ _ _ _ _ _ h => h) fun H2 dn g2 hdn hD => ?_
    have g12 := g1.trans g2
    refine ⟨v, dn, ds, zerosM ks, rfl, hv.keep g12.tk, hg, hD, by rw [zerosM, List.length_map]; omega, fun H3 p dt ks' g3 hp hdt hS pts' hN hSt => ?_⟩
    have g3' : Gx H H3 := fun b o hb => g3 b o (fun z => by subst z; rw [g1 _ _ hb] at hdn; cases hdn) (g12 _ _ hb)
    have hlen : ks'.length = ks.length := Nat.le_antisymm (nodup_len pts'.1 fun k hk => (pts.2 k).mpr ((pts'.2 k).mp hk)) (nodup_len pts.1 fun k hk => (pts'.2 k).mpr ((pts.2 k).mp hk))
    have hk : ks.length < ks'.length + (zerosM ks).length + 1 := by omega
    refine ⟨p, rfl, _, hS, rfl, _, _, rfl, _, _, rfl, rfl, ?_⟩
    have iff := settled_iff pts hk
    simp only [cxOf, Cx.nox, L2.start, tRet, tAndV, tOrV, tNotV, tCB, tCons, tNil, tVar, tC, tOp, tUn, tChain, tIfS, tTest, tSeq, tNext, tB, tOr, tAnd, tNot, tAsg, tDrop, tCall, rI0, rI, rU, List.cons_append, List.nil_append, List.append_nil, List.map_cons, List.map_nil, List.length_cons, List.length_nil, Nat.reduceAdd, Nat.reduceSub, List.replicate_succ, List.replicate_zero, List.getElem?_cons_zero, List.getElem?_cons_succ, Option.some.injEq, exists_eq_left, exists_eq_left', exists_eq_right, V.int.injEq, V.bl.injEq, V.str.injEq, V.ref.injEq, true_and, and_true, exists_and_left, if_true, if_false, gTup, gCons, gNil, gSub, gName, Mk.rSetD, List.set_cons_zero, List.set_cons_succ, Bool.false_eq_true, List.cons.injEq, Bool.not_true, Bool.not_false, eq_self, decide_true, decide_false, c3, tIf]
    by_cases hf : FitM ds
    · rw [iff.mpr hf]
      exact q1 hf H3 g3'
    · have hb : (settledM ds (ks'.length + (zerosM ks).length + 1) (zerosM ks) []).2.2 = true := Bool.not_eq_false _ ▸ fun z => hf (iff.mp z)
      rw [if_pos hb]
      obtain ⟨ok, nd, sub⟩ := settled_ok (ds := ds) (N := zerosM ks) (k := ks'.length + (zerosM ks).length + 1)
      have cyc := settled_cyc pts hk hb
      generalize settledM ds (ks'.length + (zerosM ks).length + 1) (zerosM ks) [] = st at *
      have lS : st.2.1.length ≤ 200 := by
        have := nodup_len nd (sub ks pts)
        rw [List.length_map] at this
        omega
      refine ⟨v, dt, ds, st.2.1, rfl, hv.keep g3'.tk, hg, hSt, nd, ?_, fun k hkk => allPts_good hg.2 ((pts.2 k).mp (sub ks pts k hkk)), ok, cyc, fun H4 p4 rs g4 hp4 hs4 rm => q2 hf H4 p4 rs (g3'.trans g4) (g3'.free hp4) hs4 (Nat.le_trans (ring_at rm ok).1 lS) (ring_at rm ok).2⟩
      have := nodup_len nd (sub ks pts)
      rw [List.length_map] at this
      omega
def spFit (P : Program) (w : World) (K : PySem.W.Frag) : Sp := fun vs H Q _ => ∃ v ds, vs = [v] ∧ DsV K H ds v ∧ GoodDs ds ∧ (¬ FitM ds → ∀ H', Gx H H' → Q .non H') ∧
  (FitM ds → ∀ H' p ks g, Gx H H' → H p = none → PtsOf ds ks → DicW P w K H' p (IM (ks.map fun k => (k, g k))) → Sol ds g → g zeroP = 0 → (∀ k, -(10 ^ 70) < g k ∧ g k < 10 ^ 70) → Q (.ref p) H')
theorem C_fitted (T : Tops mg) (D : Def K mg "fitted" s_fitted ["differences"]) (C_points_of : Cal P w K mg base "points_of" 1 ["differences"] (spPts K)) (C_settled : Cal P w K mg base "settled" 2 ["differences", "numbers"] (spSet P w K)) : Cal P w K mg base "fitted" 3 ["differences"] (spFit P w K) := by
  refine Cal.of D sc_fitted (fun vs H Q E h => ?_) (fun f cdv A outer s H vs Q E hr h => ?_)
  · obtain ⟨v, ds, rfl, _⟩ := h; rfl
  · obtain ⟨v, ds, rfl, hv, hg, q1, q2⟩ := h
    have hu := hu_of hr
    have h0 := hr.units0
    refine ⟨_, (pss_cons (ps_set (i := 1) sc_fitted.nd rfl (Or.inl rfl) (pe_cal C_points_of hr (by decide) (by rfl) (pa_cons (pv 0) pa_nil)))
      (pss_cons (ps_set (i := 2) sc_fitted.nd rfl (Or.inr rfl) (pe_dcP h0 (own := [("point", 3)]) rfl sc_fitted.nd (pi_list (pv 1)) (blkOk_by (own := [("point", 3)]) (N := N_fitted) (sc := defScope s_fitted) (by decide +kernel)) (fun _ _ _ _ _ => (pg_name (i := 3) sc_fitted.nd rfl (Or.inl rfl))) (fun _ _ _ _ _ => pts_nil) (fun _ _ _ _ _ => (pv 3)) (fun _ _ _ _ _ => pe_int)))
      (pss_cons (ps_if (pt_val (pe_ix (ix_tup' (K := K) rfl) (pe_cal C_settled hr (by decide) (by rfl) (pa_cons (pv 0) (pa_cons (pv 2) pa_nil))) pe_int (fun _ _ => rfl))) (pss_one (ps_ret pe_non)) pss_nil)
      (pss_one (ps_ret (pe_dcP h0 (own := [("point", 3)]) rfl sc_fitted.nd (pi_list (pv 1)) (blkOk_by (own := [("point", 3)]) (N := N_fitted) (sc := defScope s_fitted) (by decide +kernel)) (fun _ _ _ _ _ => (pg_name (i := 3) sc_fitted.nd rfl (Or.inl rfl))) (fun _ _ _ _ _ => pts_nil) (fun _ _ _ _ _ => (pv 3)) (fun _ _ _ _ _ => (pe_op op_sub (pe_ix (ix_dic' hu (P := P) (w := w) (K := K) rfl rfl rfl) (pv 2) (pv 3) (fun _ _ => rfl)) (pe_ix (ix_dic' hu (P := P) (w := w) (K := K) rfl rfl rfl) (pv 2) (pe_const T.c_ZERO (by rfl)) (fun _ _ => rfl)))))))))), ?_⟩
    simp only [cxOf, Cx.nox, L2.start, tRet, tAndV, tOrV, tNotV, tCB, tCons, tNil, tVar, tC, tOp, tUn, tChain, tIfS, tTest, tSeq, tNext, tB, tOr, tAnd, tNot, tAsg, tDrop, tCall, rI0, rI, rU, List.cons_append, List.nil_append, List.append_nil, List.map_cons, List.map_nil, List.length_cons, List.length_nil, Nat.reduceAdd, Nat.reduceSub, List.replicate_succ, List.replicate_zero, List.getElem?_cons_zero, List.getElem?_cons_succ, Option.some.injEq, exists_eq_left, exists_eq_left', exists_eq_right, V.int.injEq, V.bl.injEq, V.str.injEq, V.ref.injEq, true_and, and_true, exists_and_left, if_true, if_false, gTup, gCons, gNil, gSub, gName, Mk.rSetD, List.set_cons_zero, List.set_cons_succ, Bool.false_eq_true, List.cons.injEq, Bool.not_true, Bool.not_false, eq_self, decide_true, decide_false, c3, N_fitted]
    refine ⟨v, ds, rfl, hv, hg, fun H1 a ks g1 ha plv pts => ?_⟩
    obtain ⟨xs, hx, pr⟩ := plv
    have lks : ks.length ≤ 121 := by
      refine Nat.le_trans (nodup_len pts.1 (fun k hk => (pts.2 k).mp hk)) ?_
      have := hg.1
      rw [allPts_len]; omega
    refine (?_ : tDcP P w K _ _ _ _ _ _ _ _ ?QQ)
    refine ⟨_, rfl, a, rfl, ⟨_, .inl (.inl hx)⟩, ?_⟩
    refine dc_pts (P := P) (w := w) (Q := ?QQ) (te := tC (.int 0)) (j := 3) (σ := [some v, some (.ref a), none, none]) (Nat.le_refl 4) hx pr pts.1 (Nat.le_trans lks (by decide)) (g := fun _ => 0) (fun _ _ _ _ _ _ _ h => h) fun H2 dn g2 hdn hD => ?_
    have g12 := g1.trans g2
    refine ⟨v, dn, ds, zerosM ks, rfl, hv.keep g12.tk, hg, hD, by rw [zerosM, List.length_map]; omega, fun H3 p dt ks' g3 hp hdt hS pts' hN hSt => ?_⟩
    have g3' : Gx H1 H3 := fun b o hb => g3 b o (fun z => by subst z; rw [hb] at hdn; cases hdn) (g2 _ _ hb)
    have hlen : ks'.length = ks.length := Nat.le_antisymm (nodup_len pts'.1 fun k hk => (pts.2 k).mpr ((pts'.2 k).mp hk)) (nodup_len pts.1 fun k hk => (pts'.2 k).mpr ((pts.2 k).mp hk))
    have hk : ks.length < ks'.length + (zerosM ks).length + 1 := by omega
    have iff := settled_iff pts hk
    have sol := fun h => settled_sol pts (k := ks'.length + (zerosM ks).length + 1) h
    have bdd := settled_bd hg ((ks'.length + (zerosM ks).length + 1)) (ks := ks) (by rw [zerosM, List.length_map]; omega)
    have kee := fun (k : PK) (h : k ∈ ks) => keep_some (ds := ds) (S := []) (k := ks'.length + (zerosM ks).length + 1) (zeros_look h)
    refine ⟨p, _, 1, _, rfl, rfl, hS, atI_nat (j := 1) rfl, _, rfl, ?_⟩
    generalize settledM ds (ks'.length + (zerosM ks).length + 1) (zerosM ks) [] = st at *
    by_cases hf : FitM ds
    · rw [iff.mpr hf, if_neg Bool.false_ne_true]
      have z0 : zeroP ∈ ks := (pts.2 _).mpr List.mem_cons_self
      obtain ⟨c, hc, _⟩ := kee _ z0
      refine ⟨_, rfl, a, rfl, ⟨_, .inl (.inl (g3' _ _ hx))⟩, ?_⟩
      refine dc_pts (P := P) (w := w) (Q := Q) (te := tOp (rI0 fun i j => V.int (i - j)) (tOp (Mk.rIxD P w K) (tVar 2) (tVar 3)) (tOp (Mk.rIxD P w K) (tVar 2) (tC (V.str "")))) (j := 3) (σ := [some v, some (.ref a), some (.ref dn), none]) (Nat.le_refl 4) (g3' _ _ hx) (Paired.mapP pr fun _ _ z => z.keep g3'.tk) pts.1 (Nat.le_trans lks (by decide))
        (g := fun k => (lookA st.1 k).getD 0 - (lookA st.1 zeroP).getD 0) (fun k hkk x H' R g kx hR => ?_) fun H4 D g4 hD4 hd4 => ?_
      · obtain ⟨b, hb, _⟩ := kee k hkk
        rw [hb, hc] at hR
        exact ⟨_, rfl, _, rfl, dn, _, k, .int b, rfl, (g.dicW hN).r, kx, by rw [VM_look, hb]; rfl, _, rfl, dn, _, zeroP, .int c, rfl, (g.dicW hN).r, rfl, by rw [VM_look, hc]; rfl, _, _, rfl, rfl, hR⟩
      · refine q2 hf H4 D ks _ ((g1.trans g3').trans g4) ((g1.trans g3').free hD4) pts hd4 (fun d hd => ?_) (Int.sub_self _) (fun k => ?_)
        · have := sol (iff.mpr hf) d hd
          dsimp only at this ⊢
          omega
        · have a := bdd k
          have b := bdd zeroP
          show -(10 ^ 70) < _ - _ ∧ _ - _ < 10 ^ 70
          omega
    · have hb : st.2.2 = true := Bool.not_eq_false _ ▸ fun z => hf (iff.mp z)
      rw [hb, if_pos rfl]
      exact q1 hf H3 (g1.trans g3')
def spBnd (K : PySem.W.Frag) : Sp := fun vs H Q _ => ∃ v x y ds one other, vs = [v, x, y] ∧ DsV K H ds v ∧ GoodDs ds ∧ KyV K H one x ∧ KyV K H other y ∧ FitM ds ∧
  ∀ H' o, Gx H H' → BoundM ds one other o → Q (o.elim .non .int) H'
def spFitting (P : Program) (w : World) (K : PySem.W.Frag) : Sp := spFit P w K
theorem C_fitting (T : Tops mg) (D : Def K mg "fitting" s_fitting ["differences"]) (C_require_differences : Cal P w K mg base "require_differences" 5 ["value"] (spReqD K)) (C_fitted : Cal P w K mg base "fitted" 3 ["differences"] (spFit P w K)) : Cal P w K mg base "fitting" 6 ["differences"] (spFit P w K) := by
  refine Cal.of D sc_fitting (fun vs H Q E h => ?_) (fun f cdv A outer s H vs Q E hr h => ?_)
  · obtain ⟨v, ds, rfl, _⟩ := h; rfl
  · obtain ⟨v, ds, rfl, hv, hg, q1, q2⟩ := h
    have hu := hu_of hr
    have h0 := hr.units0
    refine ⟨_, (pss_cons (ps_expr (pe_cal C_require_differences hr (by decide) (by rfl) (pa_cons (pv 0) pa_nil)))
      (pss_one (ps_ret (pe_cal C_fitted hr (by decide) (by rfl) (pa_cons (pv 0) pa_nil))))), ?_⟩
    simp only [cxOf, Cx.nox, L2.start, tRet, tAndV, tOrV, tNotV, tCB, tCons, tNil, tVar, tC, tOp, tUn, tChain, tIfS, tTest, tSeq, tNext, tB, tOr, tAnd, tNot, tAsg, tDrop, tCall, rI0, rI, rU, List.cons_append, List.nil_append, List.append_nil, List.map_cons, List.map_nil, List.length_cons, List.length_nil, Nat.reduceAdd, Nat.reduceSub, List.replicate_succ, List.replicate_zero, List.getElem?_cons_zero, List.getElem?_cons_succ, Option.some.injEq, exists_eq_left, exists_eq_left', exists_eq_right, V.int.injEq, V.bl.injEq, V.str.injEq, V.ref.injEq, true_and, and_true, exists_and_left, if_true, if_false, gTup, gCons, gNil, gSub, gName, Mk.rSetD, List.set_cons_zero, List.set_cons_succ, Bool.false_eq_true, List.cons.injEq, Bool.not_true, Bool.not_false, eq_self, decide_true, decide_false, c3, N_fitting]
    exact ⟨v, ds, rfl, hv, hg, fun H1 g1 => ⟨v, ds, rfl, hv.keep g1.tk, hg, fun hf H2 g2 => q1 hf H2 (g1.trans g2), fun hf H2 p ks g g2 hp pts hd hs hz hb => q2 hf H2 p ks g (g1.trans g2) (g1.free hp) pts hd hs hz hb⟩⟩
theorem C_ring (T : Tops mg) (D : Def K mg "ring" s_ring ["differences"]) (C_require_differences : Cal P w K mg base "require_differences" 5 ["value"] (spReqD K)) (C_ring_of : Cal P w K mg base "ring_of" 3 ["differences"] (spRof K)) : Cal P w K mg base "ring" 6 ["differences"] (spRof K) := by
  refine Cal.of D sc_ring (fun vs H Q E h => ?_) (fun f cdv A outer s H vs Q E hr h => ?_)
  · obtain ⟨v, ds, rfl, _⟩ := h; rfl
  · obtain ⟨v, ds, rfl, hv, hg, q1, q2⟩ := h
    have hu := hu_of hr
    have h0 := hr.units0
    refine ⟨_, (pss_cons (ps_expr (pe_cal C_require_differences hr (by decide) (by rfl) (pa_cons (pv 0) pa_nil)))
      (pss_one (ps_ret (pe_cal C_ring_of hr (by decide) (by rfl) (pa_cons (pv 0) pa_nil))))), ?_⟩
    simp only [cxOf, Cx.nox, L2.start, tRet, tAndV, tOrV, tNotV, tCB, tCons, tNil, tVar, tC, tOp, tUn, tChain, tIfS, tTest, tSeq, tNext, tB, tOr, tAnd, tNot, tAsg, tDrop, tCall, rI0, rI, rU, List.cons_append, List.nil_append, List.append_nil, List.map_cons, List.map_nil, List.length_cons, List.length_nil, Nat.reduceAdd, Nat.reduceSub, List.replicate_succ, List.replicate_zero, List.getElem?_cons_zero, List.getElem?_cons_succ, Option.some.injEq, exists_eq_left, exists_eq_left', exists_eq_right, V.int.injEq, V.bl.injEq, V.str.injEq, V.ref.injEq, true_and, and_true, exists_and_left, if_true, if_false, gTup, gCons, gNil, gSub, gName, Mk.rSetD, List.set_cons_zero, List.set_cons_succ, Bool.false_eq_true, List.cons.injEq, Bool.not_true, Bool.not_false, eq_self, decide_true, decide_false, c3, N_ring]
    exact ⟨v, ds, rfl, hv, hg, fun H1 g1 => ⟨v, ds, rfl, hv.keep g1.tk, hg, fun hf H2 g2 => q1 hf H2 (g1.trans g2), fun hf H2 p rs g2 hp hs l1 l2 => q2 hf H2 p rs (g1.trans g2) (g1.free hp) hs l1 l2⟩⟩
def spTig (K : PySem.W.Frag) : Sp := fun vs H Q _ => ∃ v x y ds one other, vs = [v, x, y] ∧ DsV K H ds v ∧ GoodDs ds ∧ KyV K H one x ∧ KyV K H other y ∧ GoodP one ∧ GoodP other ∧ FitM ds ∧
  ∀ H' o, Gx H H' → BoundM ds one other o → Q (o.elim .non .int) H'
def spIsf (P : Program) (w : World) (K : PySem.W.Frag) : Sp := fun vs H Q _ => ∃ v dn ds N f, vs = [v, .ref dn] ∧ DsV K H ds v ∧ GoodDs ds ∧ DicR P w K H dn (IM N) ∧ (N.map (·.1)).Nodup ∧ (∀ k, k ∈ N.map (·.1) ↔ k ∈ allPts ds) ∧ (∀ k ∈ N.map (·.1), lookA N k = some (f k)) ∧ (∀ k ∈ N.map (·.1), -(10 ^ 60) < f k ∧ f k < 10 ^ 60) ∧ f zeroP = 0 ∧ Sol ds f ∧
  ∀ H', Gx H H' → Q (.bl true) H'
theorem C_is_fitting (T : Tops mg) (D : Def K mg "is_fitting" s_is_fitting ["differences", "value"]) (C_require_differences : Cal P w K mg base "require_differences" 5 ["value"] (spReqD K)) (C_points_of : Cal P w K mg base "points_of" 1 ["differences"] (spPts K)) (C_is_integer : Cal P w K mg base "is_integer" 1 ["value"] spIsInt) : Cal P w K mg base "is_fitting" 6 ["differences", "value"] (spIsf P w K) := by
  refine Cal.of D sc_is_fitting (fun vs H Q E h => ?_) (fun f cdv A outer s H vs Q E hr h => ?_)
  · obtain ⟨v, dn, ds, N, f, rfl, _⟩ := h; rfl
  · obtain ⟨v, dn, ds, N, f, rfl, hv, hg, hN, nd, hk, hl, hb, hz, sol, q⟩ := h
    have hu := hu_of hr
    have h0 := hr.units0
    refine ⟨_, (pss_cons (ps_expr (pe_cal C_require_differences hr (by decide) (by rfl) (pa_cons (pv 0) pa_nil)))
      (pss_cons (ps_set (i := 2) sc_is_fitting.nd rfl (Or.inl rfl) (pe_cal C_points_of hr (by decide) (by rfl) (pa_cons (pv 0) pa_nil)))
      (pss_cons (ps_if (PW.pt (pw_or (pt_not (pt_val (pe_callB (call_isA' (P := P) (w := w) (K := K) rfl rfl rfl) (by rfl) T.b_isinstance (by decide +kernel) (pa_cons (pv 1) (pa_cons (pe_bltn (v := .ty "dict") (u := .type "dict") (by rfl) T.b_dict (by decide +kernel) rfl) pa_nil))))) (pw_or (pt_cmpR op_ne (pe_callB call_lenD (by rfl) T.b_len (by decide +kernel) (pa_cons (pv 1) pa_nil)) (pe_callB call_len_seq (by rfl) T.b_len (by decide +kernel) (pa_cons (pv 2) pa_nil)) (nomark _)) (pw_or1 (pt_not (pt_val (pe_callB (cr_all rfl) (by rfl) T.b_all (by decide +kernel) (pa_cons (pe_lc (own := [("point", 3)]) rfl sc_is_fitting.nd (pi_list (pv 2)) (blkOk_by (own := [("point", 3)]) (N := N_is_fitting) (sc := defScope s_is_fitting) (by decide +kernel)) (fun _ _ _ _ _ => (pg_name (i := 3) sc_is_fitting.nd rfl (Or.inl rfl))) (fun _ _ _ _ _ => pts_nil) (fun _ _ _ _ _ => (pe_cmpR (op_inD' hu (P := P) (w := w) (K := K) rfl rfl rfl) (pv 3) (pv 1) (by rfl)))) pa_nil)))))))) (pss_one (ps_ret pe_bl)) pss_nil)
      (pss_cons (ps_if (PW.pt (pw_or (pt_not (pt_val (pe_callB (cr_all rfl) (by rfl) T.b_all (by decide +kernel) (pa_cons (pe_lc (own := [("point", 3)]) rfl sc_is_fitting.nd (pi_list (pv 2)) (blkOk_by (own := [("point", 3)]) (N := N_is_fitting) (sc := defScope s_is_fitting) (by decide +kernel)) (fun _ _ _ _ _ => (pg_name (i := 3) sc_is_fitting.nd rfl (Or.inl rfl))) (fun _ _ _ _ _ => pts_nil) (fun _ _ _ _ _ => (pe_cal C_is_integer hr (by decide) (by rfl) (pa_cons (pe_ix (ix_dic' hu (P := P) (w := w) (K := K) rfl rfl rfl) (pv 1) (pv 3) (fun _ _ => rfl)) pa_nil)))) pa_nil)))) (pw_or1 (pt_cmpR op_ne (pe_ix (ix_dic' hu (P := P) (w := w) (K := K) rfl rfl rfl) (pv 1) (pe_const T.c_ZERO (by rfl)) (fun _ _ => rfl)) pe_int (nomark _))))) (pss_one (ps_ret pe_bl)) pss_nil)
      (pss_one (ps_ret (pe_callB (cr_all rfl) (by rfl) T.b_all (by decide +kernel) (pa_cons (pe_lc (own := [("one", 4), ("other", 5), ("number", 6)]) rfl sc_is_fitting.nd (pi_tup (pv 0)) (blkOk_by (own := [("one", 4), ("other", 5), ("number", 6)]) (N := N_is_fitting) (sc := defScope s_is_fitting) (by decide +kernel)) (fun _ _ _ _ _ => (pg_tupB (K := K) (n := 3) rfl rfl (pgs_cons (pg_name (i := 4) sc_is_fitting.nd rfl (Or.inl rfl) (Or.inr rfl)) (pgs_cons (pg_name (i := 5) sc_is_fitting.nd rfl (Or.inl rfl) (Or.inr rfl)) (pgs_cons (pg_name (i := 6) sc_is_fitting.nd rfl (Or.inl rfl) (Or.inr rfl)) pgs_nil))))) (fun _ _ _ _ _ => pts_nil) (fun _ _ _ _ _ => (pe_cmpR op_le (pe_op op_sub (pe_ix (ix_dic' hu (P := P) (w := w) (K := K) rfl rfl rfl) (pv 1) (pv 4) (fun _ _ => rfl)) (pe_ix (ix_dic' hu (P := P) (w := w) (K := K) rfl rfl rfl) (pv 1) (pv 5) (fun _ _ => rfl))) (pv 6) (nomark _)))) pa_nil)))))))), ?_⟩
    simp only [cxOf, Cx.nox, L2.start, tRet, tAndV, tOrV, tNotV, tCB, tCons, tNil, tVar, tC, tOp, tUn, tChain, tIfS, tTest, tSeq, tNext, tB, tOr, tAnd, tNot, tAsg, tDrop, tCall, rI0, rI, rU, List.cons_append, List.nil_append, List.append_nil, List.map_cons, List.map_nil, List.length_cons, List.length_nil, Nat.reduceAdd, Nat.reduceSub, List.replicate_succ, List.replicate_zero, List.getElem?_cons_zero, List.getElem?_cons_succ, Option.some.injEq, exists_eq_left, exists_eq_left', exists_eq_right, V.int.injEq, V.bl.injEq, V.str.injEq, V.ref.injEq, true_and, and_true, exists_and_left, if_true, if_false, gTup, gCons, gNil, gSub, gName, Mk.rSetD, List.set_cons_zero, List.set_cons_succ, Bool.false_eq_true, List.cons.injEq, Bool.not_true, Bool.not_false, eq_self, decide_true, decide_false, c3, N_is_fitting]
    refine ⟨v, ds, rfl, hv, hg, fun H1 g1 => ⟨v, ds, rfl, hv.keep g1.tk, hg, fun H2 a ks g2 ha plv pts => ?_⟩⟩
    obtain ⟨xs, hx, pr⟩ := plv
    have g12 := g1.trans g2
    have dR : ∀ {H'}, Gx H2 H' → DicR P w K H' dn (IM N) := fun g => (g12.trans g).dicR hN
    have nk : ∀ k, k ∈ ks ↔ k ∈ N.map (·.1) := fun k => by rw [pts.2, hk]
    have hlen : N.length = xs.length := by
      rw [← Paired.length pr]
      have h1 := nodup_len nd (r := ks) fun k hh => (nk k).mpr hh
      have h2 := nodup_len pts.1 (r := N.map (·.1)) fun k hh => (nk k).mp hh
      rw [List.length_map] at h1 h2
      omega
    have lks : xs.length ≤ 121 := by
      rw [← Paired.length pr]
      refine Nat.le_trans (nodup_len pts.1 (fun k hk => (pts.2 k).mp hk)) ?_
      have := hg.1
      rw [allPts_len]; omega
    have get : ∀ {k x H'} {R : VK}, Gx H2 H' → k ∈ ks → KyV K H' k x → R (.int (f k)) H' → Mk.rIxD P w K (.ref dn) x H' R := fun g hkk kx r => ⟨dn, _, _, _, rfl, dR g, kx, by rw [VM_look, hl _ ((nk _).mp hkk)]; rfl, r⟩
    refine isA (.dic (dR .refl)) rfl ?_
    simp only [cxOf, Cx.nox, L2.start, tRet, tAndV, tOrV, tNotV, tCB, tCons, tNil, tVar, tC, tOp, tUn, tChain, tIfS, tTest, tSeq, tNext, tB, tOr, tAnd, tNot, tAsg, tDrop, tCall, rI0, rI, rU, List.cons_append, List.nil_append, List.append_nil, List.map_cons, List.map_nil, List.length_cons, List.length_nil, Nat.reduceAdd, Nat.reduceSub, List.replicate_succ, List.replicate_zero, List.getElem?_cons_zero, List.getElem?_cons_succ, Option.some.injEq, exists_eq_left, exists_eq_left', exists_eq_right, V.int.injEq, V.bl.injEq, V.str.injEq, V.ref.injEq, true_and, and_true, exists_and_left, if_true, if_false, gTup, gCons, gNil, gSub, gName, Mk.rSetD, List.set_cons_zero, List.set_cons_succ, Bool.false_eq_true, List.cons.injEq, Bool.not_true, Bool.not_false, eq_self, decide_true, decide_false, c3]
    refine ⟨dn, _, rfl, dR .refl, xs, .inl (.inl (.inl hx)), rfl, ?_⟩
    rw [VM_len, hlen]
    refine ⟨false, by simp, ?_⟩
    simp only [cxOf, Cx.nox, L2.start, tRet, tAndV, tOrV, tNotV, tCB, tCons, tNil, tVar, tC, tOp, tUn, tChain, tIfS, tTest, tSeq, tNext, tB, tOr, tAnd, tNot, tAsg, tDrop, tCall, rI0, rI, rU, List.cons_append, List.nil_append, List.append_nil, List.map_cons, List.map_nil, List.length_cons, List.length_nil, Nat.reduceAdd, Nat.reduceSub, List.replicate_succ, List.replicate_zero, List.getElem?_cons_zero, List.getElem?_cons_succ, Option.some.injEq, exists_eq_left, exists_eq_left', exists_eq_right, V.int.injEq, V.bl.injEq, V.str.injEq, V.ref.injEq, true_and, and_true, exists_and_left, if_true, if_false, gTup, gCons, gNil, gSub, gName, Mk.rSetD, List.set_cons_zero, List.set_cons_succ, Bool.false_eq_true, List.cons.injEq, Bool.not_true, Bool.not_false, eq_self, decide_true, decide_false, c3]
    refine (?_ : tLc _ _ _ _ _ _ _ _)
    refine ⟨_, rfl, a, rfl, ⟨_, .inl (.inl hx)⟩, fun D hD => lc_it (walk_list (xs := xs)) (PvG H2 D (AMap xs fun _ => V.bl true)) (PvG.ini hD .ini) (fun _ _ _ h => h.1.seqL (.inl (.inl hx))) (fun i x H3 H4 hi hP hY => ?_) (fun H3 hP => ?_)⟩
    · obtain ⟨rfl, hx⟩ := hY
      obtain ⟨g, ys, e, a⟩ := hP
      obtain ⟨k, hkk, kx⟩ := pair_at pr hx
      refine ⟨rfl, _, rfl, _, rfl, dn, _, k, rfl, dR g, kx.keep g.tk, ?_⟩
      rw [VM_look, hl k ((nk k).mp (List.mem_of_getElem? hkk))]
      exact PvG.put g hD e (line_lt (a.len lks) (by decide)) (a.put hx)
    obtain ⟨g, ys, e, am⟩ := hP
    refine ⟨D, xs.map fun _ => true, rfl, .inl (.inl (by rw [e, am.fin, List.map_map]; rfl)), ?_⟩
    rw [all_bl, show (xs.all fun _ => true) = true by simp]
    simp only [cxOf, Cx.nox, L2.start, tRet, tAndV, tOrV, tNotV, tCB, tCons, tNil, tVar, tC, tOp, tUn, tChain, tIfS, tTest, tSeq, tNext, tB, tOr, tAnd, tNot, tAsg, tDrop, tCall, rI0, rI, rU, List.cons_append, List.nil_append, List.append_nil, List.map_cons, List.map_nil, List.length_cons, List.length_nil, Nat.reduceAdd, Nat.reduceSub, List.replicate_succ, List.replicate_zero, List.getElem?_cons_zero, List.getElem?_cons_succ, Option.some.injEq, exists_eq_left, exists_eq_left', exists_eq_right, V.int.injEq, V.bl.injEq, V.str.injEq, V.ref.injEq, true_and, and_true, exists_and_left, if_true, if_false, gTup, gCons, gNil, gSub, gName, Mk.rSetD, List.set_cons_zero, List.set_cons_succ, Bool.false_eq_true, List.cons.injEq, Bool.not_true, Bool.not_false, eq_self, decide_true, decide_false, c3]
    have hx3 := g _ _ hx
    have pr3 := Paired.mapP pr fun _ _ z => z.keep g.tk
    refine ⟨_, rfl, a, rfl, ⟨_, .inl (.inl hx3)⟩, fun D2 hD2 => lc_it (walk_list (xs := xs)) (PvG H3 D2 (AMap xs fun _ => V.bl true)) (PvG.ini hD2 .ini) (fun _ _ _ h => h.1.seqL (.inl (.inl hx3))) (fun i x H5 H6 hi hP hY => ?_) (fun H4 hP => ?_)⟩
    · obtain ⟨rfl, hxx⟩ := hY
      obtain ⟨g4, ys, e, a⟩ := hP
      obtain ⟨k, hkk, kx⟩ := pair_at pr3 hxx
      have kn := (nk k).mp (List.mem_of_getElem? hkk)
      refine ⟨rfl, _, rfl, _, rfl, get (g.trans g4) (List.mem_of_getElem? hkk) (kx.keep g4.tk) ⟨_, rfl, (hb k kn).1, (hb k kn).2, ?_⟩⟩
      exact PvG.put g4 hD2 e (line_lt (a.len lks) (by decide)) (a.put hxx)
    obtain ⟨g4, ys4, e4, am4⟩ := hP
    refine ⟨D2, xs.map fun _ => true, rfl, .inl (.inl (by rw [e4, am4.fin, List.map_map]; rfl)), ?_⟩
    rw [all_bl, show (xs.all fun _ => true) = true by simp]
    simp only [cxOf, Cx.nox, L2.start, tRet, tAndV, tOrV, tNotV, tCB, tCons, tNil, tVar, tC, tOp, tUn, tChain, tIfS, tTest, tSeq, tNext, tB, tOr, tAnd, tNot, tAsg, tDrop, tCall, rI0, rI, rU, List.cons_append, List.nil_append, List.append_nil, List.map_cons, List.map_nil, List.length_cons, List.length_nil, Nat.reduceAdd, Nat.reduceSub, List.replicate_succ, List.replicate_zero, List.getElem?_cons_zero, List.getElem?_cons_succ, Option.some.injEq, exists_eq_left, exists_eq_left', exists_eq_right, V.int.injEq, V.bl.injEq, V.str.injEq, V.ref.injEq, true_and, and_true, exists_and_left, if_true, if_false, gTup, gCons, gNil, gSub, gName, Mk.rSetD, List.set_cons_zero, List.set_cons_succ, Bool.false_eq_true, List.cons.injEq, Bool.not_true, Bool.not_false, eq_self, decide_true, decide_false, c3]
    refine get (k := zeroP) (g.trans g4) ((pts.2 _).mpr List.mem_cons_self) rfl ⟨rfl, ?_⟩
    rw [hz]
    refine ⟨false, by simp, ?_⟩
    simp only [cxOf, Cx.nox, L2.start, tRet, tAndV, tOrV, tNotV, tCB, tCons, tNil, tVar, tC, tOp, tUn, tChain, tIfS, tTest, tSeq, tNext, tB, tOr, tAnd, tNot, tAsg, tDrop, tCall, rI0, rI, rU, List.cons_append, List.nil_append, List.append_nil, List.map_cons, List.map_nil, List.length_cons, List.length_nil, Nat.reduceAdd, Nat.reduceSub, List.replicate_succ, List.replicate_zero, List.getElem?_cons_zero, List.getElem?_cons_succ, Option.some.injEq, exists_eq_left, exists_eq_left', exists_eq_right, V.int.injEq, V.bl.injEq, V.str.injEq, V.ref.injEq, true_and, and_true, exists_and_left, if_true, if_false, gTup, gCons, gNil, gSub, gName, Mk.rSetD, List.set_cons_zero, List.set_cons_succ, Bool.false_eq_true, List.cons.injEq, Bool.not_true, Bool.not_false, eq_self, decide_true, decide_false, c3]
    obtain ⟨t, ts, rfl, ht, prd⟩ := (hv.keep g12.tk).keep (g.trans g4).tk
    refine ⟨_, rfl, t, rfl, ⟨_, ht⟩, fun D3 hD3 => lc_it (walk_tup (xs := ts)) (PvG H4 D3 (AMap ts fun _ => V.bl true)) (PvG.ini hD3 .ini) (fun _ _ _ h => h.1.seqT ht) (fun i x H5 H6 hi hP hY => ?_) (fun H5 hP => ?_)⟩
    · obtain ⟨rfl, hxx⟩ := hY
      obtain ⟨g5, ys, e, a⟩ := hP
      obtain ⟨d, hd, dx⟩ := pair_at prd hxx
      obtain ⟨p, x1, x2, rfl, hp, k1, k2⟩ := dx.keep g5.tk
      have dm := List.mem_of_getElem? hd
      have g45 := (g.trans g4).trans g5
      refine ⟨p, _, rfl, hp, rfl, _, _, rfl, _, _, rfl, _, _, rfl, rfl, rfl, _, rfl, _, rfl, get g45 (pts_l pts dm) k1 ⟨_, rfl, _, rfl, get g45 (pts_r pts dm) k2 ⟨_, _, rfl, rfl, _, rfl, _, _, rfl, rfl, ?_⟩⟩⟩
      dsimp only
      rw [decide_eq_true (sol d dm)]
      exact PvG.put g5 hD3 e (line_lt (a.len (n := 60) (by rw [← Paired.length prd]; exact hg.1)) (by decide)) (a.put hxx)
    obtain ⟨g5, ys5, e5, am5⟩ := hP
    refine ⟨D3, ts.map fun _ => true, rfl, .inl (.inl (by rw [e5, am5.fin, List.map_map]; rfl)), ?_⟩
    rw [all_bl, show (ts.all fun _ => true) = true by simp]
    exact q _ (g12.trans ((g.trans g4).trans g5))
end
end Mk


set_option Elab.async false
set_option linter.all false
set_option maxRecDepth 100000
set_option maxHeartbeats 400000
/-! the law's keg and draws -/
namespace Mk
open PySem PySem.Spec PyProof.Rows L2
section
variable {P : Program} {w : World} {K : PySem.W.Frag} {mg : Str → Option Value} {base : Heap}
/-- a keg -/
def KegV (H : Hp) (k : Addr) : Prop := ∃ g s n : Int, H k = some (.lst [.int g, .int s, .int n])
theorem cmul_l {i j : Int} (h : -(2 ^ 64) < i ∧ i < 2 ^ 64 := by decide) : CMul i j := .inl h
theorem mod_bd {x m : Int} (h : 0 < m) : 0 ≤ x % m ∧ x % m < m := ⟨Int.emod_nonneg _ (by omega), Int.emod_lt_of_pos _ h⟩
def spKeg (K : PySem.W.Frag) : Sp := fun vs H Q _ => ∃ (a : Addr) (ns : List Int) (i : Int), vs = [.ref a, .int i] ∧ SqL K H a (ns.map V.int) ∧ 0 ≤ i ∧ ∀ p g s, H p = none → Q (.ref p) (upd H p (.lst [.int g, .int s, .int 0]))
theorem C__law_keg (T : Tops mg) (D : Def K mg "_law_keg" s__law_keg ["script", "at"]) : Cal P w K mg base "_law_keg" 1 ["script", "at"] (spKeg K) := by
  refine Cal.of D sc__law_keg (fun vs H Q E h => ?_) (fun f cdv A outer s H vs Q E hr h => ?_)
  · obtain ⟨a, ns, i, rfl, _⟩ := h; rfl
  · obtain ⟨a, ns, i, rfl, hS, i0, q⟩ := h
    have hu := hu_of hr
    have h0 := hr.units0
    refine ⟨_, (pss_cons (ps_set (i := 2) sc__law_keg.nd rfl (Or.inl rfl) (pe_ifExp (pt_cmpR op_lt (pv 1) (pe_callB call_len_seq (by rfl) T.b_len (by decide +kernel) (pa_cons (pv 0) pa_nil)) (nomark _)) (pe_ix ix_list (pv 0) (pv 1) (fun _ _ => rfl)) (pe_op op_add (pe_op op_mul pe_int (pv 1)) pe_int)))
      (pss_cons (ps_set (i := 3) sc__law_keg.nd rfl (Or.inl rfl) (pe_op op_mod (pe_callTy call_int1 (by rfl) T.b_int (by decide +kernel) (pa_cons (pe_callB call_abs (by rfl) T.b_abs (by decide +kernel) (pa_cons (pv 2) pa_nil)) pa_nil)) (pe_op op_powB (pe_op op_powB pe_int pe_int) pe_int)))
      (pss_cons (ps_set (i := 4) sc__law_keg.nd rfl (Or.inl rfl) (pe_op op_mod (pe_callTy call_int1 (by rfl) T.b_int (by decide +kernel) (pa_cons (pe_op op_add (pe_op op_add (pe_op op_add (pv 3) (pe_op op_mul pe_int (pv 1))) (pe_op op_mul pe_int (pe_callTy call_int1 (by rfl) T.b_int (by decide +kernel) (pa_cons (pe_cmpR op_lt (pv 2) pe_int (nomark _)) pa_nil)))) pe_int) pa_nil)) (pe_op op_add (pe_op op_powB pe_int pe_int) pe_int)))
      (pss_one (ps_ret (pe_lst (pa_cons (pe_ifExp (pt_cmpR op_gt (pv 3) (pe_op op_powB pe_int pe_int) (nomark _)) (pe_op op_sub (pv 3) (pe_op op_powB pe_int pe_int)) pe_int) (pa_cons (pv 4) (pa_cons pe_int pa_nil))))))))), ?_⟩
    have cell : ∀ {σ : L2.St} {H' : Hp} {R : VK}, σ[0]? = some (some (.ref a)) → σ[1]? = some (some (.int i)) → SqL K H' a (ns.map V.int) → (∀ c, R (.int c) H') → tIf (tTest (tOp (rI0 fun i j => V.bl (decide (i < j))) (tVar 1) (tCB (fun xs H Q => ∃ p, xs = [V.ref p] ∧ ∃ x, (SqL K H p x ∨ SqT K H p x) ∧ Q (V.int ↑x.length) H) (tCons (tVar 0) tNil)))) (tOp (rIxL K) (tVar 0) (tVar 1))
        (tOp (rI0 fun i j => V.int (i + j)) (tOp (rI CMul fun i j => V.int (i * j)) (tC (V.int 61)) (tVar 1)) (tC (V.int 37))) σ H' R := by
      intro σ H' R h1 h2 h3 hq
      refine ⟨_, h2, _, h1, a, rfl, _, .inl h3, _, _, rfl, rfl, _, rfl, ?_⟩
      by_cases c : i < (ns.map V.int).length
      · rw [decide_eq_true c]
        dsimp only
        rw [if_pos rfl]
        rw [List.length_map] at c
        have hl : i.toNat < ns.length := by omega
        refine ⟨_, h1, _, h2, a, _, i, .int ns[i.toNat], rfl, rfl, h3, ?_, hq _⟩
        have := atI_nat (xs := ns.map V.int) (j := i.toNat) (v := .int ns[i.toNat]) (by rw [List.getElem?_map, List.getElem?_eq_getElem hl]; rfl)
        rwa [Int.toNat_of_nonneg i0] at this
      · rw [decide_eq_false c]
        dsimp only
        rw [if_neg Bool.false_ne_true]
        exact ⟨_, h2, _, _, rfl, rfl, cmul_l, _, _, rfl, rfl, hq _⟩
    simp only [cxOf, Cx.nox, L2.start, tRet, tAndV, tOrV, tNotV, tCB, tCons, tNil, tVar, tC, tOp, tUn, tChain, tIfS, tTest, tSeq, tNext, tB, tOr, tAnd, tNot, tAsg, tDrop, tCall, rI0, rI, rU, List.cons_append, List.nil_append, List.append_nil, List.map_cons, List.map_nil, List.length_cons, List.length_nil, Nat.reduceAdd, Nat.reduceSub, List.replicate_succ, List.replicate_zero, List.getElem?_cons_zero, List.getElem?_cons_succ, Option.some.injEq, exists_eq_left, exists_eq_left', exists_eq_right, V.int.injEq, V.bl.injEq, V.str.injEq, V.ref.injEq, true_and, and_true, exists_and_left, if_true, if_false, gTup, gCons, gNil, gSub, gName, Mk.rSetD, List.set_cons_zero, List.set_cons_succ, Bool.false_eq_true, List.cons.injEq, Bool.not_true, Bool.not_false, eq_self, decide_true, decide_false, c3, N__law_keg]
    refine cell rfl rfl hS fun c => ⟨_, rfl, ?_⟩
    refine .inl ⟨by decide, by decide, ?_, cmul_l, _, rfl, .inr ⟨cmul_l, .inl ⟨by decide, by decide, ?_⟩⟩⟩
    · exact Int.pow_pos (Int.pow_pos (by decide))
    generalize (if c < 0 then -c else c) % (10 ^ Int.toNat 60) ^ Int.toNat 8 = g
    generalize ((g + 6700417 * i + 67867967 * (if decide (c < 0) = true then 1 else 0) + 7) % (10 ^ Int.toNat 18 + 9) : Int) = sd
    have pw : ∀ {σ : L2.St} {R : VK}, R (.int (10 ^ Int.toNat 18)) H → (tOp (rI (fun i j => 0 ≤ j ∧ ↑(Builtin.Int.intBits i) * j ≤ 2 ^ 27) fun i j => V.int (i ^ j.toNat)) (tC (V.int 10)) (tC (V.int 18))) σ H R :=
      fun hq => ⟨_, _, rfl, rfl, by decide, hq⟩
    refine ⟨_, rfl, pw ⟨_, _, rfl, rfl, _, rfl, ?_⟩⟩
    by_cases c2 : 10 ^ Int.toNat 18 < g
    · rw [decide_eq_true c2]
      exact ⟨_, rfl, pw ⟨_, _, rfl, rfl, _, rfl, (by show 3 ≤ sizeLine; decide), fun p hp => q p _ _ hp⟩⟩
    · rw [decide_eq_false c2]
      exact ⟨_, rfl, (by show 3 ≤ sizeLine; decide), fun p hp => q p _ _ hp⟩
def spTap : Sp := fun vs H Q _ => ∃ k m, vs = [.ref k, .int m] ∧ KegV H k ∧ 0 < m ∧ m < 1000 ∧ ∀ r u, 0 ≤ r → r < m → KegV (upd H k u) k → Q (.int r) (upd H k u)
theorem C__law_tap (T : Tops mg) (D : Def K mg "_law_tap" s__law_tap ["keg", "total"]) : Cal P w K mg base "_law_tap" 1 ["keg", "total"] spTap := by
  refine Cal.of D sc__law_tap (fun vs H Q E h => ?_) (fun f cdv A outer s H vs Q E hr h => ?_)
  · obtain ⟨a, i, rfl, _⟩ := h; rfl
  · obtain ⟨k, m, rfl, ⟨g, sd, n, hk⟩, m0, m1, q⟩ := h
    have hu := hu_of hr
    have h0 := hr.units0
    refine ⟨_, (pss_cons (ps_if (pt_cmpR op_gt (pe_ix ix_list (pv 0) pe_int (fun _ _ => rfl)) pe_int (nomark _)) (pss_cons (ps_set (i := 2) sc__law_tap.nd rfl (Or.inl rfl) (pe_op op_mod (pe_callTy call_int1 (by rfl) T.b_int (by decide +kernel) (pa_cons (pe_ix ix_list (pv 0) pe_int (fun _ _ => rfl)) pa_nil)) (pv 1)))
      (pss_cons (ps_asg (pe_op op_fdiv (pe_ix ix_list (pv 0) pe_int (fun _ _ => rfl)) (pv 1)) (pg_sub (pv 0) pe_int set_list))
      (pss_one (ps_ret (pv 2))))) pss_nil)
      (pss_cons (ps_asg (pe_op op_add (pe_ix ix_list (pv 0) pe_int (fun _ _ => rfl)) pe_int) (pg_sub (pv 0) pe_int set_list))
      (pss_cons (ps_set (i := 3) sc__law_tap.nd rfl (Or.inl rfl) (pe_op op_mod (pe_callTy call_int1 (by rfl) T.b_int (by decide +kernel) (pa_cons (pe_op op_add (pe_ix ix_list (pv 0) pe_int (fun _ _ => rfl)) (pe_op op_mul pe_int (pe_ix ix_list (pv 0) pe_int (fun _ _ => rfl)))) pa_nil)) pe_int))
      (pss_cons (ps_set (i := 4) sc__law_tap.nd rfl (Or.inl rfl) (pe_op op_mod (pe_callTy call_int1 (by rfl) T.b_int (by decide +kernel) (pa_cons (pe_op op_add (pe_op op_add (pe_op op_mul (pv 3) (pv 3)) (pe_op op_fdiv (pe_ix ix_list (pv 0) pe_int (fun _ _ => rfl)) pe_int)) (pe_op op_mul pe_int (pe_ix ix_list (pv 0) pe_int (fun _ _ => rfl)))) pa_nil)) pe_int))
      (pss_cons (ps_set (i := 5) sc__law_tap.nd rfl (Or.inl rfl) (pe_op op_mod (pe_callTy call_int1 (by rfl) T.b_int (by decide +kernel) (pa_cons (pe_op op_add (pe_op op_mul (pv 4) (pv 4)) (pv 3)) pa_nil)) pe_int))
      (pss_one (ps_ret (pe_op op_mod (pe_callTy call_int1 (by rfl) T.b_int (by decide +kernel) (pa_cons (pe_op op_fdiv (pv 5) pe_int) pa_nil)) (pv 1))))))))), ?_⟩
    have get : ∀ {H' : Hp} {a b c : Int} {R : VK}, H' k = some (.lst [.int a, .int b, .int c]) → (R (.int a) H' → rIxL K (.ref k) (.int 0) H' R) ∧ (R (.int b) H' → rIxL K (.ref k) (.int 1) H' R) ∧ (R (.int c) H' → rIxL K (.ref k) (.int 2) H' R) :=
      fun h => ⟨fun r => ⟨k, _, 0, _, rfl, rfl, .inl (.inl h), atI_nat (j := 0) rfl, r⟩, fun r => ⟨k, _, 1, _, rfl, rfl, .inl (.inl h), atI_nat (j := 1) rfl, r⟩, fun r => ⟨k, _, 2, _, rfl, rfl, .inl (.inl h), atI_nat (j := 2) rfl, r⟩⟩
    simp only [cxOf, Cx.nox, L2.start, tRet, tAndV, tOrV, tNotV, tCB, tCons, tNil, tVar, tC, tOp, tUn, tChain, tIfS, tTest, tSeq, tNext, tB, tOr, tAnd, tNot, tAsg, tDrop, tCall, rI0, rI, rU, List.cons_append, List.nil_append, List.append_nil, List.map_cons, List.map_nil, List.length_cons, List.length_nil, Nat.reduceAdd, Nat.reduceSub, List.replicate_succ, List.replicate_zero, List.getElem?_cons_zero, List.getElem?_cons_succ, Option.some.injEq, exists_eq_left, exists_eq_left', exists_eq_right, V.int.injEq, V.bl.injEq, V.str.injEq, V.ref.injEq, true_and, and_true, exists_and_left, if_true, if_false, gTup, gCons, gNil, gSub, gName, Mk.rSetD, List.set_cons_zero, List.set_cons_succ, Bool.false_eq_true, List.cons.injEq, Bool.not_true, Bool.not_false, eq_self, decide_true, decide_false, c3, N__law_tap]
    refine (get hk).1 ⟨_, rfl, ?_⟩
    by_cases c : 0 < g
    · simp only [cxOf, Cx.nox, L2.start, tRet, tAndV, tOrV, tNotV, tCB, tCons, tNil, tVar, tC, tOp, tUn, tChain, tIfS, tTest, tSeq, tNext, tB, tOr, tAnd, tNot, tAsg, tDrop, tCall, rI0, rI, rU, List.cons_append, List.nil_append, List.append_nil, List.map_cons, List.map_nil, List.length_cons, List.length_nil, Nat.reduceAdd, Nat.reduceSub, List.replicate_succ, List.replicate_zero, List.getElem?_cons_zero, List.getElem?_cons_succ, Option.some.injEq, exists_eq_left, exists_eq_left', exists_eq_right, V.int.injEq, V.bl.injEq, V.str.injEq, V.ref.injEq, true_and, and_true, exists_and_left, if_true, if_false, gTup, gCons, gNil, gSub, gName, Mk.rSetD, List.set_cons_zero, List.set_cons_succ, Bool.false_eq_true, List.cons.injEq, Bool.not_true, Bool.not_false, eq_self, decide_true, decide_false, c3, c, m0]
      refine (get hk).1 (.inl ⟨_, rfl, (get hk).1 ⟨_, rfl, ⟨m0, by omega⟩, k, _, 0, 0, rfl, rfl, hk, rfl, ?_⟩⟩)
      exact q _ _ (mod_bd m0).1 (mod_bd m0).2 ⟨_, _, _, upd_same⟩
    · simp only [cxOf, Cx.nox, L2.start, tRet, tAndV, tOrV, tNotV, tCB, tCons, tNil, tVar, tC, tOp, tUn, tChain, tIfS, tTest, tSeq, tNext, tB, tOr, tAnd, tNot, tAsg, tDrop, tCall, rI0, rI, rU, List.cons_append, List.nil_append, List.append_nil, List.map_cons, List.map_nil, List.length_cons, List.length_nil, Nat.reduceAdd, Nat.reduceSub, List.replicate_succ, List.replicate_zero, List.getElem?_cons_zero, List.getElem?_cons_succ, Option.some.injEq, exists_eq_left, exists_eq_left', exists_eq_right, V.int.injEq, V.bl.injEq, V.str.injEq, V.ref.injEq, true_and, and_true, exists_and_left, if_true, if_false, gTup, gCons, gNil, gSub, gName, Mk.rSetD, List.set_cons_zero, List.set_cons_succ, Bool.false_eq_true, List.cons.injEq, Bool.not_true, Bool.not_false, eq_self, decide_true, decide_false, c3, c]
      refine (get hk).2.2 ⟨_, rfl, k, _, 2, 2, rfl, rfl, hk, rfl, ?_⟩
      have hk2 : (upd H k (.lst ([V.int g, V.int sd, V.int n].set 2 (V.int (n + 1))))) k = some (.lst [.int g, .int sd, .int (n + 1)]) := upd_same
      refine (get hk2).2.1 ((get hk2).2.2 ⟨_, rfl, cmul_l, _, rfl, ?_⟩)
      refine .inl ⟨by decide, .inl ?_, (get hk2).2.1 ⟨_, rfl, ⟨by decide, by decide⟩, (get hk2).2.2 ⟨_, rfl, cmul_l, .inl ⟨by decide, .inl ?_, .inl ⟨by decide, ⟨by decide, by decide⟩, .inl ⟨m0, ?_⟩⟩⟩⟩⟩⟩
      · have := mod_bd (x := sd + 1181783497 * (n + 1)) (show (0 : Int) < 2147483587 by decide)
        omega
      · generalize (_ + _ + 7207 * (n + 1) : Int) = z
        have := mod_bd (x := z) (show (0 : Int) < 1000000009 by decide)
        omega
      · exact q _ _ (mod_bd m0).1 (mod_bd m0).2 ⟨_, _, _, hk2⟩
theorem sq_at {i : Int} {n : Nat} (h0 : 0 ≤ i) (h1 : i < n) : seqIndex? i n = some i.toNat := by
  unfold seqIndex?
  have a : ¬ i < 0 := by omega
  simp [a, h0, h1]
theorem pair_erase {α β : Type} {R : α → β → Prop} {as : List α} {bs : List β} (h : Paired R as bs) : ∀ i, Paired R (as.eraseIdx i) (bs.eraseIdx i) := by
  induction h with
  | nil => intro i; exact .nil
  | cons r t ih =>
    intro i
    cases i with
    | zero => exact t
    | succ i => exact .cons r (ih i)
/-- [.. left.pop(..) ..]: some of the items -/
def spCho (K : PySem.W.Frag) : Sp := fun vs H Q _ => ∃ (k a : Addr) (c : Int) (ks : List PK), vs = [.ref k, .ref a, .int c] ∧ KegV H k ∧ k ≠ a ∧ PLV K H a ks ∧ ks.length ≤ 100 ∧ 0 ≤ c ∧ c ≤ 100 ∧
  ∀ H' p ks', GxB k H H' → KegV H' k → H p = none → PLV K H' p ks' → (∀ x ∈ ks', x ∈ ks) → ks'.length ≤ c.toNat → Q (.ref p) H'
theorem C__law_choices (T : Tops mg) (D : Def K mg "_law_choices" s__law_choices ["keg", "items", "count"]) (C__law_tap : Cal P w K mg base "_law_tap" 1 ["keg", "total"] spTap) : Cal P w K mg base "_law_choices" 2 ["keg", "items", "count"] (spCho K) := by
  refine Cal.of D sc__law_choices (fun vs H Q E h => ?_) (fun f cdv A outer s H vs Q E hr h => ?_)
  · obtain ⟨k, a, c, ks, rfl, _⟩ := h; rfl
  · obtain ⟨k, a, c, ks, rfl, hk, hka, plv, lks, c0, c1, q⟩ := h
    have hu := hu_of hr
    have h0 := hr.units0
    refine ⟨_, (pss_cons (ps_par rfl sc__law_choices.nd (i := 3) (j := 4) rfl rfl (by decide) rfl rfl (pa_cons (pe_callTy call_list_of (by rfl) T.b_list (by decide +kernel) (pa_cons (pv 1) pa_nil)) (pa_cons (pe_lst pa_nil) pa_nil)) (by rfl))
      (pss_cons (ps_for PassesOwn.never rfl (pi_range1 (by rfl) T.b_range (pa_cons (pe_callB (call_min2 rfl) (by rfl) T.b_min (by decide +kernel) (pa_cons (pv 2) (pa_cons (pe_callB call_len_seq (by rfl) T.b_len (by decide +kernel) (pa_cons (pv 1) pa_nil)) pa_nil))) pa_nil)) (pg_name (i := 5) sc__law_choices.nd rfl (Or.inl rfl))
      (pss_one (ps_expr (pe_bm PySem.F.plainAttrs_list PySem.F.slot_list_append PySem.F.type_list_append mt_append (pv 4) (pa_cons (pe_bm PySem.F.plainAttrs_list PySem.F.slot_list_pop PySem.F.type_list_pop mt_popAt (pv 3) (pa_cons (pe_cal C__law_tap hr (by decide) (by rfl) (pa_cons (pv 0) (pa_cons (pe_callB call_len_seq (by rfl) T.b_len (by decide +kernel) (pa_cons (pv 3) pa_nil)) pa_nil))) pa_nil)) pa_nil)))))
      (pss_one (ps_ret (pv 4))))), ?_⟩
    simp only [cxOf, Cx.nox, L2.start, tRet, tAndV, tOrV, tNotV, tCB, tCons, tNil, tVar, tC, tOp, tUn, tChain, tIfS, tTest, tSeq, tNext, tB, tOr, tAnd, tNot, tAsg, tDrop, tCall, rI0, rI, rU, List.cons_append, List.nil_append, List.append_nil, List.map_cons, List.map_nil, List.length_cons, List.length_nil, Nat.reduceAdd, Nat.reduceSub, List.replicate_succ, List.replicate_zero, List.getElem?_cons_zero, List.getElem?_cons_succ, Option.some.injEq, exists_eq_left, exists_eq_left', exists_eq_right, V.int.injEq, V.bl.injEq, V.str.injEq, V.ref.injEq, true_and, and_true, exists_and_left, if_true, if_false, gTup, gCons, gNil, gSub, gName, Mk.rSetD, List.set_cons_zero, List.set_cons_succ, Bool.false_eq_true, List.cons.injEq, Bool.not_true, Bool.not_false, eq_self, decide_true, decide_false, c3, N__law_choices, tPar, tLst]
    obtain ⟨xs, hx, pr⟩ := plv
    have lxs : xs.length = ks.length := (Paired.length pr).symm
    refine ⟨xs, .inl (.inl (.inl hx)), fun l hl => ⟨Nat.zero_le _, fun p hp => ⟨_, _, ⟨rfl, rfl⟩, ?_⟩⟩⟩
    have hpl : p ≠ l := fun z => by rw [z, upd_same] at hp; cases hp
    have hp' : H p = none := by rw [upd_ne hpl] at hp; exact hp
    have hkl : k ≠ l := fun z => by obtain ⟨_, _, _, h⟩ := hk; rw [z, hl] at h; cases h
    have hkp : k ≠ p := fun z => by obtain ⟨_, _, _, h⟩ := hk; rw [z, hp'] at h; cases h
    have hal : SqL K (upd (upd H l (.lst xs)) p (.lst [])) a xs := (Gx.new hp).seqL ((Gx.new hl).seqL (.inl (.inl hx)))
    generalize hn : (if (xs.length : Int) < c then (xs.length : Int) else c) = n
    have n0 : 0 ≤ n := by rw [← hn]; split <;> omega
    have n1 : n ≤ ks.length := by rw [← hn, lxs]; split <;> omega
    have n2 : n ≤ c := by rw [← hn]; split <;> omega
    refine ⟨_, rfl, _, rfl, a, rfl, xs, .inl hal, _, _, rfl, _, rfl, ?_⟩
    rw [hn]
    refine ⟨by omega, by omega, ?_⟩
    refine for_it walk_range (fun i σ H' => ∃ x5 ksL xsL ksF xsF, σ = [some (.ref k), some (.ref a), some (.int c), some (.ref l), some (.ref p), x5] ∧ GxB k H H' ∧ KegV H' k ∧ H' l = some (.lst xsL) ∧ Paired (KyV K H') ksL xsL ∧ H' p = some (.lst xsF) ∧ Paired (KyV K H') ksF xsF ∧
        (∀ x ∈ ksL, x ∈ ks) ∧ (∀ x ∈ ksF, x ∈ ks) ∧ ksL.length = ks.length - i ∧ ksF.length = i)
      ⟨none, ks, xs, [], [], rfl, ((Gx.new hl).trans (.new hp)).but, ?_, ?_, ?_, upd_same, .nil, fun _ h => h, nofun, rfl, rfl⟩ (fun _ _ _ _ _ => trivial) (fun i x σ H1 H2 hi hP hY => ?_) (fun σ H1 hP => ?_)
    · obtain ⟨g, s, m, h⟩ := hk
      exact ⟨g, s, m, by rw [upd_ne hkp, upd_ne hkl]; exact h⟩
    · rw [upd_ne hpl.symm]; exact upd_same
    · exact Paired.mapP pr fun _ _ z => z.keep ((Gx.new hl).trans (.new hp)).tk
    · obtain ⟨rfl, rfl⟩ := hY
      obtain ⟨x5, ksL, xsL, ksF, xsF, rfl, g, hk1, hL, prL, hF, prF, sL, sF, lL, lF⟩ := hP
      have ln : xsL.length = ks.length - i := by rw [← Paired.length prL]; exact lL
      refine ⟨_, rfl, .inl ⟨rfl, _, .inl (.inl hF)⟩, _, rfl, .inl ⟨rfl, _, .inl (.inl hL)⟩, _, rfl, _, rfl, l, rfl, xsL, .inl (.inl (.inl hL)), k, _, rfl, hk1, by omega, by omega, fun r u r0 r1 hk2 => ?_⟩
      have hL2 : (upd H2 k u) l = some (.lst xsL) := by rw [upd_ne hkl.symm]; exact hL
      have hrl : r.toNat < xsL.length := by omega
      obtain ⟨y, hy⟩ : ∃ y, xsL[r.toNat]? = some y := ⟨_, List.getElem?_eq_getElem hrl⟩
      obtain ⟨q1, hq1, ky⟩ := pair_at prL hy
      refine ⟨l, xsL, r, r.toNat, y, rfl, rfl, hL2, by omega, by omega, sq_at r0 r1, hy, ?_⟩
      have hF2 : (upd (upd H2 k u) l (.lst (xsL.eraseIdx r.toNat))) p = some (.lst xsF) := by rw [upd_ne hpl, upd_ne hkp.symm]; exact hF
      refine ⟨p, xsF, y, rfl, rfl, hF2, line_lt (m := 100) (by rw [← Paired.length prF, lF]; omega), ?_⟩
      have mk1 : Mut (H2 k) := by obtain ⟨_, _, _, h⟩ := hk1; rw [h]; exact True.intro
      have t1 : Tk K H2 (upd H2 k u) := Tk.mut mk1
      have t2 : Tk K (upd H2 k u) (upd (upd H2 k u) l (.lst (xsL.eraseIdx r.toNat))) := Tk.mut (by rw [hL2]; exact True.intro)
      have t3 : Tk K (upd (upd H2 k u) l (.lst (xsL.eraseIdx r.toNat))) (upd (upd (upd H2 k u) l (.lst (xsL.eraseIdx r.toNat))) p (.lst (xsF ++ [y]))) := Tk.mut (by rw [hF2]; exact True.intro)
      have t := (t1.trans t2).trans t3
      refine ⟨_, ksL.eraseIdx r.toNat, xsL.eraseIdx r.toNat, ksF ++ [q1], xsF ++ [y], rfl, ?_, ?_, ?_, ?_, upd_same, ?_, fun x hx => sL x (List.mem_of_mem_eraseIdx hx), ?_, ?_, ?_⟩
      · intro b o hb hbo
        have b1 : b ≠ l := fun z => by rw [z, hl] at hbo; cases hbo
        have b2 : b ≠ p := fun z => by rw [z, hp'] at hbo; cases hbo
        rw [upd_ne b2, upd_ne b1, upd_ne hb]
        exact g b o hb hbo
      · obtain ⟨g', s', m', h⟩ := hk2
        exact ⟨g', s', m', by rw [upd_ne hkp, upd_ne hkl]; exact h⟩
      · rw [upd_ne hpl.symm]; exact upd_same
      · exact pair_erase (Paired.mapP prL fun _ _ z => z.keep t) _
      · exact pair_snoc (Paired.mapP prF fun _ _ z => z.keep t) (ky.keep t)
      · intro x hx
        rcases List.mem_append.mp hx with h | h
        · exact sF x h
        · rw [List.mem_singleton] at h
          rw [h]
          exact sL _ (List.mem_of_getElem? hq1)
      · rw [List.length_eraseIdx_of_lt (by rw [Paired.length prL]; exact hrl)]; omega
      · rw [List.length_append, List.length_singleton, lF]
    · obtain ⟨x5, ksL, xsL, ksF, xsF, rfl, g, hk1, hL, prL, hF, prF, sL, sF, lL, lF⟩ := hP
      exact ⟨_, rfl, q _ _ ksF g hk1 hp' ⟨xsF, hF, prF⟩ sF (by omega)⟩
end
end Mk


set_option Elab.async false
set_option linter.all false
set_option maxRecDepth 100000
set_option maxHeartbeats 400000
/-! the law's points -/
namespace Mk
open PySem PySem.Spec PyProof.Rows L2
section
variable {P : Program} {w : World} {K : PySem.W.Frag} {mg : Str → Option Value} {base : Heap}
theorem units65 {k : Nat} {A : Around} (r : Room k A) : A.units + 65 < cLine := by have := r.un; omega
theorem units20 {k : Nat} {A : Around} (r : Room k A) : A.units + 20 < cLine := by have := r.un; omega
theorem units3 {k : Nat} {A : Around} (r : Room k A) : A.units + 3 < cLine := by have := r.un; omega
def ks12 : List PK := [.inl (.inr "i"), .inl (.inr "j"), .inl (.inr "n"), .inl (.inr "x"), .inl (.inr "*1"), .inl (.inr "*2"), .inl (.inr "*10"), .inr [.inr "a", .inr "i", .inl 0], .inr [.inr "a", .inr "i", .inl 1], .inr [.inr "a", .inr "", .inl (-3)],
  .inr [.inr "b", .inr "*1", .inl 0], .inr [.inr "a", .inr "j", .inl 0]]
theorem ks12_good : ∀ k ∈ ks12, GoodP k := by
  intro k hk
  simp only [ks12, List.mem_cons, List.not_mem_nil, or_false] at hk
  rcases hk with rfl | rfl | rfl | rfl | rfl | rfl | rfl | rfl | rfl | rfl | rfl | rfl
  · exact ⟨by decide, by decide⟩
  · exact ⟨by decide, by decide⟩
  · exact ⟨by decide, by decide⟩
  · exact ⟨by decide, by decide⟩
  · exact ⟨by decide, by decide⟩
  · exact ⟨by decide, by decide⟩
  · exact ⟨by decide, by decide⟩
  · exact ⟨by decide, by decide, by decide, by decide, by decide, by decide⟩
  · exact ⟨by decide, by decide, by decide, by decide, by decide, by decide⟩
  · exact ⟨by decide, by decide, by decide, by decide, by decide, by decide⟩
  · exact ⟨by decide, by decide, by decide, by decide, by decide, by decide⟩
  · exact ⟨by decide, by decide, by decide, by decide, by decide, by decide⟩
/-- how long the texts of a point are -/
def szP : PK → Nat
  | .inl (.inr z) => z.length
  | .inr l => (l.map fun x => match x with
    | .inr z => z.length + 1
    | .inl _ => 1).sum
  | _ => 0
/-- a point with short names -/
def SmallP (k : PK) : Prop := GoodP k ∧ szP k ≤ 12
theorem ks12_small : ∀ k ∈ ks12, SmallP k := fun k hk => ⟨ks12_good k hk, by
  simp only [ks12, List.mem_cons, List.not_mem_nil, or_false] at hk
  rcases hk with rfl | rfl | rfl | rfl | rfl | rfl | rfl | rfl | rfl | rfl | rfl | rfl <;> decide⟩
def spDrawn (K : PySem.W.Frag) : Sp := fun vs H Q _ => ∃ (k : Addr) (c : Int), vs = [.ref k, .int c] ∧ KegV H k ∧ 0 ≤ c ∧ c ≤ 12 ∧
  ∀ H' p ks, GxB k H H' → KegV H' k → H p = none → PLV K H' p ks → (∀ x ∈ ks, SmallP x) → 0 < ks.length → ks.length ≤ 13 → Q (.ref p) H'
theorem C__law_points_drawn (T : Tops mg) (D : Def K mg "_law_points_drawn" s__law_points_drawn ["keg", "count"]) (C__law_choices : Cal P w K mg base "_law_choices" 2 ["keg", "items", "count"] (spCho K)) : Cal P w K mg base "_law_points_drawn" 3 ["keg", "count"] (spDrawn K) := by
  refine Cal.of D sc__law_points_drawn (fun vs H Q E h => ?_) (fun f cdv A outer s H vs Q E hr h => ?_)
  · obtain ⟨k, c, rfl, _⟩ := h; rfl
  · obtain ⟨k, c, rfl, hk, c0, c1, q⟩ := h
    have hu := hu_of hr
    have h0 := hr.units0
    refine ⟨_, (pss_cons (ps_set (i := 2) sc__law_points_drawn.nd rfl (Or.inl rfl) (pe_lst (pa_cons pe_str (pa_cons pe_str (pa_cons pe_str (pa_cons pe_str (pa_cons pe_str (pa_cons pe_str (pa_cons pe_str (pa_cons (pe_tup (pa_cons pe_str (pa_cons pe_str (pa_cons pe_int pa_nil)))) (pa_cons (pe_tup (pa_cons pe_str (pa_cons pe_str (pa_cons pe_int pa_nil)))) (pa_cons (pe_tup (pa_cons pe_str (pa_cons pe_str (pa_cons (pe_un un_neg pe_int) pa_nil)))) pa_nil))))))))))))
      (pss_cons (ps_set (i := 2) sc__law_points_drawn.nd rfl (Or.inl rfl) (pe_op op_cat (pv 2) (pe_lst (pa_cons (pe_tup (pa_cons pe_str (pa_cons pe_str (pa_cons pe_int pa_nil)))) (pa_cons (pe_tup (pa_cons pe_str (pa_cons pe_str (pa_cons pe_int pa_nil)))) pa_nil)))))
      (pss_one (ps_ret (pe_op op_cat (pe_lst (pa_cons pe_str pa_nil)) (pe_cal C__law_choices hr (by decide) (by rfl) (pa_cons (pv 0) (pa_cons (pv 2) (pa_cons (pv 1) pa_nil))))))))), ?_⟩
    have nl : ∀ {n : Nat}, Nat.ble n 100 = true → n ≤ sizeLine := fun h => line_le (m := 100) (Nat.le_of_ble_eq_true h)
    refine ⟨nl rfl, fun t1 e1 => ⟨nl rfl, fun t2 e2 => ⟨3, rfl, nl rfl, fun t3 e3 => ⟨nl rfl, fun l1 f1 => ?_⟩⟩⟩⟩
    refine ⟨_, rfl, nl rfl, fun t4 e4 => ⟨nl rfl, fun t5 e5 => ⟨nl rfl, fun l2 f2 => ?_⟩⟩⟩
    have d1 : Gx H _ := Gx.new (o := .tup [.str "a", .str "i", .int 0]) e1
    have d2 := Gx.new (o := .tup [.str "a", .str "i", .int 1]) e2
    have d3 := Gx.new (o := .tup [.str "a", .str "", .int (-3)]) e3
    have d4 := Gx.new (o := .lst [.str "i", .str "j", .str "n", .str "x", .str "*1", .str "*2", .str "*10", .ref t1, .ref t2, .ref t3]) f1
    have d5 := Gx.new (o := .tup [.str "b", .str "*1", .int 0]) e4
    have d6 := Gx.new (o := .tup [.str "a", .str "j", .int 0]) e5
    have d7 := Gx.new (o := .lst [.ref t4, .ref t5]) f2
    generalize hA : upd H t1 (.tup [.str "a", .str "i", .int 0]) = HA at *
    have a1 : HA t1 = some (.tup [.str "a", .str "i", .int 0]) := by rw [← hA]; exact upd_same
    generalize hB : upd HA t2 (.tup [.str "a", .str "i", .int 1]) = HB at *
    have a2 : HB t2 = some (.tup [.str "a", .str "i", .int 1]) := by rw [← hB]; exact upd_same
    generalize hC : upd HB t3 (.tup [.str "a", .str "", .int (-3)]) = HC at *
    have a3 : HC t3 = some (.tup [.str "a", .str "", .int (-3)]) := by rw [← hC]; exact upd_same
    generalize hD : upd HC l1 (.lst [.str "i", .str "j", .str "n", .str "x", .str "*1", .str "*2", .str "*10", .ref t1, .ref t2, .ref t3]) = HD at *
    have a4 : HD l1 = some (.lst [.str "i", .str "j", .str "n", .str "x", .str "*1", .str "*2", .str "*10", .ref t1, .ref t2, .ref t3]) := by rw [← hD]; exact upd_same
    generalize hE : upd HD t4 (.tup [.str "b", .str "*1", .int 0]) = HE at *
    have a5 : HE t4 = some (.tup [.str "b", .str "*1", .int 0]) := by rw [← hE]; exact upd_same
    generalize hF : upd HE t5 (.tup [.str "a", .str "j", .int 0]) = HF at *
    have a6 : HF t5 = some (.tup [.str "a", .str "j", .int 0]) := by rw [← hF]; exact upd_same
    generalize hG : upd HF l2 (.lst [.ref t4, .ref t5]) = HG at *
    have a7 : HG l2 = some (.lst [.ref t4, .ref t5]) := by rw [← hG]; exact upd_same
    have d45 := d5.trans (d6.trans d7)
    have dH := d1.trans (d2.trans (d3.trans (d4.trans d45)))
    refine ⟨l1, l2, _, _, rfl, rfl, d45 _ _ a4, a7, nl rfl, fun l3 f3 => ?_⟩
    refine ⟨nl rfl, fun l4 f4 => ⟨_, rfl, _, rfl, _, rfl, ?_⟩⟩
    have g3 := Gx.new (o := .lst ([.str "i", .str "j", .str "n", .str "x", .str "*1", .str "*2", .str "*10", .ref t1, .ref t2, .ref t3] ++ [.ref t4, .ref t5])) f3
    generalize hI : upd HG l3 (.lst ([.str "i", .str "j", .str "n", .str "x", .str "*1", .str "*2", .str "*10", .ref t1, .ref t2, .ref t3] ++ [.ref t4, .ref t5])) = HI at *
    have hl3 : HI l3 = some (.lst ([.str "i", .str "j", .str "n", .str "x", .str "*1", .str "*2", .str "*10", .ref t1, .ref t2, .ref t3] ++ [.ref t4, .ref t5])) := by rw [← hI]; exact upd_same
    have g4 := Gx.new (o := .lst [.str ""]) f4
    generalize hJ : upd HI l4 (.lst [.str ""]) = HJ at *
    have hl4 : HJ l4 = some (.lst [.str ""]) := by rw [← hJ]; exact upd_same
    have gJ := g3.trans g4
    have gall := dH.trans gJ
    have c3 := gJ; have c2 := d45.trans gJ
    have plv : PLV K HJ l3 ks12 := ⟨_, g4 _ _ hl3, .cons rfl (.cons rfl (.cons rfl (.cons rfl (.cons rfl (.cons rfl (.cons rfl
      (.cons ⟨t1, rfl, .inl (.inl ((d2.trans (d3.trans (d4.trans c2))) _ _ a1))⟩ (.cons ⟨t2, rfl, .inl (.inl ((d3.trans (d4.trans c2)) _ _ a2))⟩ (.cons ⟨t3, rfl, .inl (.inl ((d4.trans c2) _ _ a3))⟩
      (.cons ⟨t4, rfl, .inl (.inl ((d6.trans (d7.trans gJ)) _ _ a5))⟩ (.cons ⟨t5, rfl, .inl (.inl ((d7.trans gJ) _ _ a6))⟩ .nil)))))))))))⟩
    have hkJ : KegV HJ k := let ⟨a, b, c, h⟩ := hk; ⟨a, b, c, gall _ _ h⟩
    have nk3 : k ≠ l3 := fun z => by
      obtain ⟨_, _, _, h⟩ := hk
      have := dH _ _ h
      rw [z, f3] at this; cases this
    have hn4 : H l4 = none := (dH.trans g3).free f4
    refine ⟨k, l3, c, ks12, rfl, hkJ, nk3, plv, by decide, c0, by omega, fun H5 p ks' g5 hk5 hp ⟨xs, hx, pr⟩ sub lks => ?_⟩
    have nk4 : l4 ≠ k := fun z => by
      obtain ⟨_, _, _, h⟩ := hk
      rw [← z, hn4] at h; cases h
    have lx : xs.length ≤ 12 := by rw [← Paired.length pr]; omega
    refine ⟨l4, p, [.str ""], xs, rfl, rfl, g5 _ _ nk4 hl4, hx, line_le (m := 13) (by rw [List.length_singleton]; omega), fun p6 hp6 => ?_⟩
    have g6 := Gx.new (o := .lst ([.str ""] ++ xs)) hp6
    have hH6 : H p6 = none := by
      rcases hh : H p6 with _ | o
      · rfl
      · by_cases z : p6 = k
        · obtain ⟨_, _, _, h⟩ := hk5
          rw [z, h] at hp6; cases hp6
        · rw [g5 _ _ z (gall _ _ hh)] at hp6; cases hp6
    refine q _ p6 (zeroP :: ks') (gall.but.trans (g5.trans g6.but)) (let ⟨a, b, c, h⟩ := hk5; ⟨a, b, c, g6 _ _ h⟩) hH6 ⟨_, upd_same, .cons rfl (Paired.mapP pr fun _ _ z => z.keep g6.tk)⟩ ?_ (by simp) (by rw [List.length_cons]; omega)
    · intro x hx
      rcases List.mem_cons.mp hx with rfl | h
      · exact ⟨⟨by decide, by decide⟩, by decide⟩
      · exact ks12_small x (sub x h)
def spOne (K : PySem.W.Frag) : Sp := fun vs H Q _ => ∃ (k a : Addr) (ks : List PK), vs = [.ref k, .ref a] ∧ KegV H k ∧ PLV K H a ks ∧ 0 < ks.length ∧ ks.length < 1000 ∧ k ≠ a ∧
  ∀ v x u, KyV K (upd H k u) x v → x ∈ ks → KegV (upd H k u) k → Q v (upd H k u)
theorem C__law_choice (T : Tops mg) (D : Def K mg "_law_choice" s__law_choice ["keg", "items"]) (C__law_tap : Cal P w K mg base "_law_tap" 1 ["keg", "total"] spTap) : Cal P w K mg base "_law_choice" 2 ["keg", "items"] (spOne K) := by
  refine Cal.of D sc__law_choice (fun vs H Q E h => ?_) (fun f cdv A outer s H vs Q E hr h => ?_)
  · obtain ⟨k, a, ks, rfl, _⟩ := h; rfl
  · obtain ⟨k, a, ks, rfl, hk, ⟨xs, hx, pr⟩, l0, l1, ne, q⟩ := h
    have hu := hu_of hr
    have h0 := hr.units0
    refine ⟨_, (pss_one (ps_ret (pe_ix ix_list (pv 1) (pe_cal C__law_tap hr (by decide) (by rfl) (pa_cons (pv 0) (pa_cons (pe_callB call_len_seq (by rfl) T.b_len (by decide +kernel) (pa_cons (pv 1) pa_nil)) pa_nil))) (fun _ _ => rfl)))), ?_⟩
    simp only [cxOf, Cx.nox, L2.start, tRet, tAndV, tOrV, tNotV, tCB, tCons, tNil, tVar, tC, tOp, tUn, tChain, tIfS, tTest, tSeq, tNext, tB, tOr, tAnd, tNot, tAsg, tDrop, tCall, rI0, rI, rU, List.cons_append, List.nil_append, List.append_nil, List.map_cons, List.map_nil, List.length_cons, List.length_nil, Nat.reduceAdd, Nat.reduceSub, List.replicate_succ, List.replicate_zero, List.getElem?_cons_zero, List.getElem?_cons_succ, Option.some.injEq, exists_eq_left, exists_eq_left', exists_eq_right, V.int.injEq, V.bl.injEq, V.str.injEq, V.ref.injEq, true_and, and_true, exists_and_left, if_true, if_false, gTup, gCons, gNil, gSub, gName, Mk.rSetD, List.set_cons_zero, List.set_cons_succ, Bool.false_eq_true, List.cons.injEq, Bool.not_true, Bool.not_false, eq_self, decide_true, decide_false, c3, N__law_choice]
    have e := Paired.length pr
    refine ⟨_, .inl (.inl (.inl hx)), k, _, rfl, hk, by omega, by omega, fun r u r0 r1 hk2 => ?_⟩
    have t1 : Tk K H (upd H k u) := Tk.mut (by obtain ⟨_, _, _, h⟩ := hk; rw [h]; exact True.intro)
    have hrl : r.toNat < xs.length := by omega
    obtain ⟨y, hy⟩ : ∃ y, xs[r.toNat]? = some y := ⟨_, List.getElem?_eq_getElem hrl⟩
    obtain ⟨q1, hq1, ky⟩ := pair_at pr hy
    refine ⟨a, xs, r, y, rfl, rfl, .inl (.inl (by rw [upd_ne ne.symm]; exact hx)), ?_, q y q1 u (ky.keep t1) (List.mem_of_getElem? hq1) hk2⟩
    have := atI_nat hy
    rwa [Int.toNat_of_nonneg r0] at this
end
end Mk


set_option Elab.async false
set_option linter.all false
set_option maxRecDepth 100000
set_option maxHeartbeats 400000
/-! the law's points of rows -/
namespace Mk
open PySem PySem.Spec PyProof.Rows L2
section
variable {P : Program} {w : World} {K : PySem.W.Frag} {mg : Str → Option Value} {base : Heap}
/-- [x for x in L if ..] -/
theorem filt_lst {p : PK → Bool} {tt : TT} {σ : L2.St} {H : Hp} {a : Addr} {Q : VK} {ks : List PK} {i j : Nat} (hσ : σ[i]? = some (some (.ref a))) (hj : j < σ.length) (plv : PLV K H a ks) (hl : ks.length ≤ 1000)
    (ht : ∀ k x H' (R : Bool → Hp → Prop), KyV K H' k x → R (p k) H' → tt ((σ.set j none).set j (some x)) H' R)
    (q : ∀ H' r, Gx H H' → H r = none → PLV K H' r (ks.filter p) → Q (.ref r) H') : tLc (iList K (tVar i)) (gName j) tt (tVar j) [j] σ H Q := by
  obtain ⟨xs, hx, pr⟩ := plv
  refine ⟨_, hσ, a, rfl, ⟨_, .inl (.inl hx)⟩, fun D hD => lc_it (walk_list (xs := xs)) (PvG H D fun n ys H' => Paired (KyV K H') ((ks.take n).filter p) ys) (PvG.ini hD (by rw [List.take_zero]; exact .nil))
    (fun _ H2 _ h => h.1.seqL (.inl (.inl hx))) (fun n x H1 H2 hn hP hY => ?_) (fun H1 hP => ?_)⟩
  · obtain ⟨rfl, hxn⟩ := hY
    obtain ⟨g, ys, e, am⟩ := hP
    obtain ⟨k, hk, ky⟩ := pair_at pr hxn
    have ky := ky.keep g.tk
    refine ⟨?_, ?_⟩
    · show ((σ.set j none).set j (some x)).set j none = σ.set j none
      rw [List.set_set, List.set_set]
    · have gj : ((σ.set j none).set j (some x))[j]? = some (some x) := by rw [List.set_set, List.getElem?_set_self hj]
      refine ht k x H2 _ ky ?_
      by_cases c : p k = true
      · rw [if_pos c]
        refine ⟨x, gj, PvG.put g hD e ?_ ?_⟩
        · rw [← Paired.length am]
          exact line_lt (Nat.le_trans (List.length_filter_le _ _) (take_len hl)) (m := 1000)
        · rw [take_s hk, List.filter_append, List.filter_cons_of_pos c]
          exact pair_snoc (Paired.mapP am fun _ _ z => z.keep (Tk.mut (by rw [e]; exact True.intro))) (ky.keep (Tk.mut (by rw [e]; exact True.intro)))
      · rw [if_neg c]
        refine ⟨g, ys, e, ?_⟩
        dsimp only
        rw [take_s hk, List.filter_append, List.filter_cons_of_neg c]
        simpa using am
  · obtain ⟨g, ys, e, am⟩ := hP
    rw [← Paired.length pr, List.take_length] at am
    exact q _ _ g hD ⟨ys, e, am⟩
def addP (l : List PK) (k : PK) : List PK := if (l.any fun z => decide (z = k)) = true then l else l ++ [k]
theorem anyP_iff {l : List PK} {k : PK} : (l.any fun z => decide (z = k)) = true ↔ k ∈ l := by
  rw [List.any_eq_true]
  exact ⟨fun ⟨z, a, b⟩ => (of_decide_eq_true b) ▸ a, fun h => ⟨k, h, decide_eq_true rfl⟩⟩
theorem addP_nodup {l : List PK} {k : PK} (h : l.Nodup) : (addP l k).Nodup := by
  unfold addP
  split
  · exact h
  · rename_i c
    rw [List.nodup_append]
    exact ⟨h, by simp, fun a ha b hb => by rw [List.mem_singleton] at hb; subst hb; exact fun z => c (anyP_iff.mpr (z ▸ ha))⟩
theorem addP_mem {l : List PK} {k x : PK} : x ∈ addP l k ↔ x = k ∨ x ∈ l := by
  unfold addP
  split
  · rename_i c
    exact ⟨.inr, fun h => h.elim (fun e => e ▸ anyP_iff.mp c) id⟩
  · rw [List.mem_append, List.mem_singleton]; exact Or.comm
theorem addP_len {l : List PK} {k : PK} : (addP l k).length ≤ l.length + 1 := by
  unfold addP
  split
  · omega
  · rw [List.length_append]; exact Nat.le_refl _
def accP : List Dif → List PK
  | [] => [zeroP]
  | d :: ds => addP (addP (accP ds) d.1) d.2.1
theorem accP_nodup : ∀ ds, (accP ds).Nodup
  | [] => by simp [accP]
  | d :: ds => addP_nodup (addP_nodup (accP_nodup ds))
theorem accP_mem {k : PK} : ∀ ds, k ∈ accP ds ↔ k ∈ allPts ds
  | [] => by simp [accP, allPts]
  | d :: ds => by
    rw [accP, addP_mem, addP_mem, accP_mem ds]
    simp only [allPts, List.flatMap_cons, List.mem_cons, List.mem_append, List.not_mem_nil, or_false]
    constructor
    · rintro (h | h | h | h) <;> simp [h]
    · rintro (h | (h | h) | h) <;> simp [h]
theorem accP_len : ∀ ds, (accP ds).length ≤ 2 * ds.length + 1
  | [] => by simp [accP]
  | d :: ds => by
    have h1 := accP_len ds
    have h2 := addP_len (l := accP ds) (k := d.1)
    have h3 := addP_len (l := addP (accP ds) d.1) (k := d.2.1)
    rw [accP, List.length_cons]
    omega
theorem ptsOf_acc {ds : List Dif} (hg : ∀ d ∈ ds, GoodD d) {k1 k2 : List PK} (h1 : k1.Perm ((accP ds.reverse).filter isStrK)) (h2 : k2.Perm ((accP ds.reverse).filter fun k => !isStrK k)) : PtsOf ds (k1 ++ k2) := by
  have hm : ∀ k, k ∈ allPts ds.reverse ↔ k ∈ allPts ds := fun k => by simp [allPts]
  have nd := accP_nodup ds.reverse
  refine ⟨List.nodup_append.mpr ⟨h1.nodup_iff.mpr (nd.filter _), h2.nodup_iff.mpr (nd.filter _), fun a ha b hb => ?_⟩, fun k => ?_⟩
  · have e1 := (List.mem_filter.mp (h1.mem_iff.mp ha)).2
    have e2 := (List.mem_filter.mp (h2.mem_iff.mp hb)).2
    rintro rfl
    rw [e1] at e2
    cases e2
  · rw [List.mem_append, h1.mem_iff, h2.mem_iff, List.mem_filter, List.mem_filter, ← and_or_left, accP_mem, hm]
    exact ⟨fun h => h.1, fun h => ⟨h, by cases isStrK k <;> simp⟩⟩
def spPin (K : PySem.W.Frag) : Sp := spPts K
theorem C__law_points_in (T : Tops mg) (D : Def K mg "_law_points_in" s__law_points_in ["differences"]) : Cal P w K mg base "_law_points_in" 1 ["differences"] (spPts K) := by
  refine Cal.of D sc__law_points_in (fun vs H Q E h => ?_) (fun f cdv A outer s H vs Q E hr h => ?_)
  · obtain ⟨i, k, rfl, _⟩ := h; rfl
  · obtain ⟨v, ds, rfl, ⟨a, vs, rfl, hS, hv⟩, ⟨hl, hg⟩, q⟩ := h
    have hu := hu_of hr
    have h0 := hr.units0
    have h65 := units65 hr
    have h20 := units20 hr
    refine ⟨_, (pss_cons (ps_set (i := 1) sc__law_points_in.nd rfl (Or.inl rfl) (pe_lst (pa_cons pe_str pa_nil)))
      (pss_cons (ps_for PassesOwn.never rfl (pi_tup (pv 0)) (pg_name (i := 2) sc__law_points_in.nd rfl (Or.inl rfl))
      (pss_one (ps_for PassesOwn.never rfl (pi_tup (pe_slice sl_tupA (pv 2) po_none (po_some pe_int))) (pg_name (i := 3) sc__law_points_in.nd rfl (Or.inl rfl))
      (pss_one (ps_set (i := 1) sc__law_points_in.nd rfl (Or.inl rfl) (pe_op op_cat (pv 1) (pe_op op_rep (pe_lst (pa_cons (pv 3) pa_nil)) (pe_callTy call_int1 (by rfl) T.b_int (by decide +kernel) (pa_cons (pe_cmpR (op_notInDp h65 (K := K) rfl) (pv 3) (pv 1) (by rfl)) pa_nil)))))))))
      (pss_cons (ps_set (i := 4) sc__law_points_in.nd rfl (Or.inl rfl) (pe_callB (call_sortD h20) (by rfl) T.b_sorted (by decide +kernel) (pa_cons (pe_lc (own := [("point", 3)]) rfl sc__law_points_in.nd (pi_list (pv 1)) (blkOk_by (own := [("point", 3)]) (N := N__law_points_in) (sc := defScope s__law_points_in) (by decide +kernel)) (fun _ _ _ _ _ => (pg_name (i := 3) sc__law_points_in.nd rfl (Or.inl rfl))) (fun _ _ _ _ _ => (pts_one (pt_val (pe_callB (call_isA' (P := P) (w := w) (K := K) rfl rfl rfl) (by rfl) T.b_isinstance (by decide +kernel) (pa_cons (pv 3) (pa_cons (pe_bltn (v := .ty "str") (u := .type "str") (by rfl) T.b_str (by decide +kernel) rfl) pa_nil)))))) (fun _ _ _ _ _ => (pv 3))) pa_nil)))
      (pss_one (ps_ret (pe_op op_cat (pv 4) (pe_callB (call_sortD h20) (by rfl) T.b_sorted (by decide +kernel) (pa_cons (pe_lc (own := [("point", 3)]) rfl sc__law_points_in.nd (pi_list (pv 1)) (blkOk_by (own := [("point", 3)]) (N := N__law_points_in) (sc := defScope s__law_points_in) (by decide +kernel)) (fun _ _ _ _ _ => (pg_name (i := 3) sc__law_points_in.nd rfl (Or.inl rfl))) (fun _ _ _ _ _ => (pts_one (pt_not (pt_val (pe_callB (call_isA' (P := P) (w := w) (K := K) rfl rfl rfl) (by rfl) T.b_isinstance (by decide +kernel) (pa_cons (pv 3) (pa_cons (pe_bltn (v := .ty "str") (u := .type "str") (by rfl) T.b_str (by decide +kernel) rfl) pa_nil))))))) (fun _ _ _ _ _ => (pv 3))) pa_nil)))))))), ?_⟩
    simp only [cxOf, Cx.nox, L2.start, tRet, tAndV, tOrV, tNotV, tCB, tCons, tNil, tVar, tC, tOp, tUn, tChain, tIfS, tTest, tSeq, tNext, tB, tOr, tAnd, tNot, tAsg, tDrop, tCall, rI0, rI, rU, List.cons_append, List.nil_append, List.append_nil, List.map_cons, List.map_nil, List.length_cons, List.length_nil, Nat.reduceAdd, Nat.reduceSub, List.replicate_succ, List.replicate_zero, List.getElem?_cons_zero, List.getElem?_cons_succ, Option.some.injEq, exists_eq_left, exists_eq_left', exists_eq_right, V.int.injEq, V.bl.injEq, V.str.injEq, V.ref.injEq, true_and, and_true, exists_and_left, if_true, if_false, gTup, gCons, gNil, gSub, gName, Mk.rSetD, List.set_cons_zero, List.set_cons_succ, Bool.false_eq_true, List.cons.injEq, Bool.not_true, Bool.not_false, eq_self, decide_true, decide_false, c3, N__law_points_in]
    refine ⟨Nat.le_of_ble_eq_true rfl, fun F hF => ?_⟩
    have one : ∀ (De : Ends) (H1 : Hp) (F : Addr) (l : List PK) (k : PK) (x : V) (x0 x2 x4 : Option V), PLV K H1 F l → KyV K H1 k x → (∀ y ∈ l, GoodP y) → GoodP k → l.length ≤ 200 → (∀ H2 F2, Gx H1 H2 → H1 F2 = none → PLV K H2 F2 (addP l k) → De.nx [x0, some (.ref F2), x2, some x, x4] H2) →
        tAsg (tOp rCat (tVar 1) (tOp rRep (tLst (tCons (tVar 3) tNil)) (tCB (fun xs H Q => (∃ i, xs = [V.int i] ∧ Q (V.int i) H) ∨ ∃ k, xs = [V.bl k] ∧ Q (V.int (if k = true then 1 else 0)) H) (tCons (tOp (L2.rNotInD K) (tVar 3) (tVar 1)) tNil)))) (gName 1)
          De [x0, some (.ref F), x2, some x, x4] H1 := by
      intro De H1 F l k x x0 x2 x4 plv ky gl gk ll hR
      obtain ⟨xs, hx, pr⟩ := id plv
      refine ⟨_, rfl, _, rfl, Nat.le_of_ble_eq_true rfl, fun n1 hn1 => ⟨_, rfl, _, rfl, ?_⟩⟩
      have g1 := Gx.new (o := .lst [x]) hn1
      have hx1 := g1 _ _ hx
      have e1 : (upd H1 n1 (.lst [x])) n1 = some (.lst [x]) := upd_same
      generalize upd H1 n1 (.lst [x]) = H2 at *
      refine ⟨ptD k, l.map ptD, (ky.keep g1.tk).dp, .lst (.inl (.inl hx1)) (dpAll_pts (Paired.mapP pr fun _ _ z => z.keep g1.tk)), shaped_pt gk, shaped_pts gl, .inr ⟨_, rfl, ?_⟩⟩
      rw [List.any_map, show ((fun z => PyData.eqv z (ptD k)) ∘ ptD) = fun z => decide (z = k) from funext fun z => eqv_pt z k]
      refine ⟨n1, _, [x], rfl, rfl, e1, ?_⟩
      have lx : xs.length ≤ 200 := by rw [← Paired.length pr]; exact ll
      by_cases c : (l.any fun z => decide (z = k)) = true
      · rw [c]
        refine ⟨by decide, by decide, Nat.le_of_ble_eq_true rfl, fun n2 hn2 => ?_⟩
        have g2 := Gx.new (o := .lst (List.replicate (Int.toNat (if (!true) = true then 1 else 0)) [x]).flatten) hn2
        have e2 : (upd H2 n2 (.lst (List.replicate (Int.toNat (if (!true) = true then 1 else 0)) [x]).flatten)) n2 = some (.lst []) := upd_same
        refine ⟨F, n2, xs, [], rfl, rfl, g2 _ _ hx1, e2, line_le (m := 200) (by simpa using lx), fun n3 hn3 => ?_⟩
        have g3 := Gx.new (o := .lst (xs ++ [])) hn3
        have gg := g1.trans (g2.trans g3)
        refine hR _ n3 gg ((g1.trans g2).free hn3) ⟨xs, by rw [upd_same, List.append_nil], ?_⟩
        rw [addP, if_pos c]
        exact Paired.mapP pr fun _ _ z => z.keep gg.tk
      · rw [show (l.any fun z => decide (z = k)) = false from Bool.eq_false_iff.mpr c]
        refine ⟨by decide, by decide, Nat.le_of_ble_eq_true rfl, fun n2 hn2 => ?_⟩
        have g2 := Gx.new (o := .lst (List.replicate (Int.toNat (if (!false) = true then 1 else 0)) [x]).flatten) hn2
        have e2 : (upd H2 n2 (.lst (List.replicate (Int.toNat (if (!false) = true then 1 else 0)) [x]).flatten)) n2 = some (.lst [x]) := upd_same
        refine ⟨F, n2, xs, [x], rfl, rfl, g2 _ _ hx1, e2, line_le (m := 201) (by rw [List.length_singleton]; omega), fun n3 hn3 => ?_⟩
        have g3 := Gx.new (o := .lst (xs ++ [x])) hn3
        have gg := g1.trans (g2.trans g3)
        refine hR _ n3 gg ((g1.trans g2).free hn3) ⟨xs ++ [x], upd_same, ?_⟩
        rw [addP, if_neg c]
        exact pair_snoc (Paired.mapP pr fun _ _ z => z.keep gg.tk) (ky.keep gg.tk)
    have accg : ∀ i, ∀ y ∈ accP (ds.take i).reverse, GoodP y := fun i y hy => allPts_good (ds := (ds.take i).reverse) (fun d hd => hg d (List.mem_of_mem_take (List.mem_reverse.mp hd))) ((accP_mem _).mp hy)
    have accl : ∀ i, (accP (ds.take i).reverse).length ≤ 121 := fun i => by
      have h1 := accP_len (ds.take i).reverse
      have h2 := take_len (i := i) hl
      rw [List.length_reverse] at h1
      omega
    refine ⟨_, rfl, a, rfl, ⟨vs, (Gx.new hF).seqT hS⟩, for_it (walk_tup (xs := vs)) (fun i σ H' => ∃ F' x2 x3, σ = [some (.ref a), some (.ref F'), x2, x3, none] ∧ Gx H H' ∧ PLV K H' F' (accP (ds.take i).reverse))
      ⟨F, none, none, rfl, .new hF, _, upd_same, .cons rfl .nil⟩ (fun i σ H' _ h => ?_) (fun i x σ H1 H2 hi hP hY => ?_) (fun σ H1 hP => ?_)⟩
    · obtain ⟨_, _, _, _, g, _⟩ := h
      exact g.seqT hS
    · obtain ⟨rfl, hx⟩ := hY
      obtain ⟨F', x2, x3, rfl, g, plv⟩ := hP
      obtain ⟨d, hdi, hdx⟩ := pair_at hv hx
      obtain ⟨p, y1, y2, rfl, hp, k1, k2⟩ := hdx.keep g.tk
      have hn : (ds.take (i + 1)).reverse = d :: (ds.take i).reverse := by rw [take_s hdi, List.reverse_append]; rfl
      obtain ⟨gd1, gd2, _⟩ := hg d (List.mem_of_getElem? hdi)
      refine ⟨_, rfl, 2, rfl, p, _, rfl, hp, fun c => absurd c (by show ¬ (HT.sIx 3 0 none = 0 ∧ HT.sIx 3 3 (some 2) = 3); decide), fun _ n hn1 => ⟨n, rfl, ⟨_, .inl (.inl upd_same)⟩, ?_⟩⟩
      have g1 := Gx.new (o := .tup (cutV [y1, y2, V.int d.2.2] none (some 2))) hn1
      have e1 : (upd H2 n (.tup (cutV [y1, y2, V.int d.2.2] none (some 2)))) n = some (.tup [y1, y2]) := upd_same
      generalize upd H2 n (.tup (cutV [y1, y2, V.int d.2.2] none (some 2))) = H3 at *
      have k13 := k1.keep g1.tk
      have k23 := k2.keep g1.tk
      refine for_it (walk_tup (K := K) (a := n) (xs := [y1, y2])) (fun j σ H' => ∃ F' x3, σ = [some (.ref a), some (.ref F'), some (.ref p), x3, none] ∧ Gx H3 H' ∧ PLV K H' F' (if j = 0 then accP (ds.take i).reverse else if j = 1 then addP (accP (ds.take i).reverse) d.1 else addP (addP (accP (ds.take i).reverse) d.1) d.2.1))
        ⟨F', x3, rfl, .refl, plv.gx g1⟩ (fun j σ H' _ h => ?_) (fun j x σ H4 H5 hj hP hY => ?_) (fun σ H4 hP => ?_)
      · obtain ⟨_, _, _, g, _⟩ := h
        exact g.seqT (.inl (.inl e1))
      · obtain ⟨rfl, hx⟩ := hY
        obtain ⟨F4, x4, rfl, g4, plv4⟩ := hP
        match j, hj, hx, plv4 with
        | 0, _, hx, plv4 =>
          cases hx
          exact one _ H5 F4 _ d.1 _ _ _ _ plv4 (k13.keep g4.tk) (accg i) gd1 (Nat.le_trans (accl i) (by decide)) fun H6 F6 g6 _ p6 => ⟨F6, _, rfl, g4.trans g6, p6⟩
        | 1, _, hx, plv4 =>
          cases hx
          refine one _ H5 F4 _ d.2.1 _ _ _ _ plv4 (k23.keep g4.tk) (fun y hy => ?_) gd2 (Nat.le_trans addP_len (Nat.le_trans (Nat.succ_le_succ (accl i)) (by decide))) fun H6 F6 g6 _ p6 => ⟨F6, _, rfl, g4.trans g6, p6⟩
          rcases addP_mem.mp hy with rfl | hy
          · exact gd1
          · exact accg i y hy
      · obtain ⟨F4, x4, rfl, g4, plv4⟩ := hP
        refine ⟨F4, _, _, rfl, g.trans (g1.trans g4), ?_⟩
        rw [hn]
        exact plv4
    · obtain ⟨F', x2, x3, rfl, g, plv⟩ := hP
      rw [show vs.length = ds.length from (Paired.length hv).symm] at plv
      have ll := accl ds.length
      have lg := accg ds.length
      rw [List.take_length] at plv ll lg
      simp only [cxOf, Cx.nox, L2.start, tRet, tAndV, tOrV, tNotV, tCB, tCons, tNil, tVar, tC, tOp, tUn, tChain, tIfS, tTest, tSeq, tNext, tB, tOr, tAnd, tNot, tAsg, tDrop, tCall, rI0, rI, rU, List.cons_append, List.nil_append, List.append_nil, List.map_cons, List.map_nil, List.length_cons, List.length_nil, Nat.reduceAdd, Nat.reduceSub, List.replicate_succ, List.replicate_zero, List.getElem?_cons_zero, List.getElem?_cons_succ, Option.some.injEq, exists_eq_left, exists_eq_left', exists_eq_right, V.int.injEq, V.bl.injEq, V.str.injEq, V.ref.injEq, true_and, and_true, exists_and_left, if_true, if_false, gTup, gCons, gNil, gSub, gName, Mk.rSetD, List.set_cons_zero, List.set_cons_succ, Bool.false_eq_true, List.cons.injEq, Bool.not_true, Bool.not_false, eq_self, decide_true, decide_false, c3]
      refine filt_lst (i := 1) (j := 3) (p := isStrK) rfl (Nat.le_of_ble_eq_true rfl) plv (Nat.le_trans ll (by decide)) (fun k x H' R ky hR => ?_) fun H2 r g2 hr2 plv2 => ?_
      · obtain ⟨t, h1, h2⟩ := str_ty (P := P) (w := w) k x H' ky
        exact ⟨x, rfl, x, _, t, _, rfl, h1, h2, _, rfl, hR⟩
      refine sort_pts plv2 (.inl fun k hk => (List.mem_filter.mp hk).2) fun p ks1 xs1 hp pm1 pr1 => ?_
      have gg : Gx H1 (upd H2 p (.lst xs1)) := g2.mut (g2.free hp)
      refine filt_lst (i := 1) (j := 3) (p := fun k => !isStrK k) rfl (Nat.le_of_ble_eq_true rfl) (plv.gx gg) (Nat.le_trans ll (by decide)) (fun k x H' R ky hR => ?_) fun H4 r4 g4 hr4 plv4 => ?_
      · obtain ⟨t, h1, h2⟩ := str_ty (P := P) (w := w) k x H' ky
        exact ⟨x, rfl, x, _, t, _, rfl, h1, h2, _, rfl, hR⟩
      refine sort_pts plv4 (.inr fun k hk => ?_) fun p5 ks5 xs5 hp5 pm5 pr5 => ?_
      · obtain ⟨hm, ht⟩ := List.mem_filter.mp hk
        have gk := lg k hm
        refine ⟨?_, gk⟩
        rcases gk.cases with ⟨z, rfl, _⟩ | ⟨a, b, c, rfl, _⟩
        · cases ht
        · rfl
      have g5 : Gx H4 (upd H4 p5 (.lst xs5)) := .new hp5
      have e1 : (upd H4 p5 (.lst xs5)) p = some (.lst xs1) := g5 _ _ (g4 _ _ upd_same)
      have l1 : xs1.length ≤ 1000 := by
        rw [← Paired.length pr1, pm1.length_eq]
        exact Nat.le_trans (List.length_filter_le _ _) (by omega)
      have l5 : xs5.length ≤ 1000 := by
        rw [← Paired.length pr5, pm5.length_eq]
        exact Nat.le_trans (List.length_filter_le _ _) (by omega)
      refine ⟨p, p5, xs1, xs5, rfl, rfl, e1, upd_same, line_le (m := 2000) (by omega), fun p6 hp6 => ?_⟩
      have g6 : Gx H1 (upd H4 p5 (.lst xs5)) := gg.trans (g4.trans g5)
      refine q _ p6 (ks1 ++ ks5) (g.trans (g6.trans (.new hp6))) ((g.trans g6).free hp6) ⟨_, upd_same, ?_⟩ (ptsOf_acc hg pm1 pm5)
      exact pair_app (Paired.mapP pr1 fun _ _ z => z.keep ((g4.trans (g5.trans (.new hp6))).tk)) (Paired.mapP pr5 fun _ _ z => z.keep (Gx.new hp6).tk)
end
end Mk


set_option Elab.async false
set_option linter.all false
set_option maxRecDepth 100000
set_option maxHeartbeats 400000
/-! is_integer of any value; is_fitting of any dict or other value -/
namespace Mk
open PySem PySem.Spec PyProof.Rows L2
def isIntB : V → Bool
  | .int i => decide (-(10 ^ 60) < i) && decide (i < 10 ^ 60)
  | _ => false
section
variable {P : Program} {w : World} {K : PySem.W.Frag} {mg : Str → Option Value} {base : Heap}
def spIsIntG (P : Program) (w : World) (K : PySem.W.Frag) : Sp := fun vs H Q _ => ∃ x t, vs = [x] ∧ TyA P w K H x t ∧ Q (.bl (isIntB x)) H
theorem any_is_integer (T : Tops mg) (D : Def K mg "is_integer" s_is_integer ["value"]) : Cal P w K mg base "is_integer" 1 ["value"] (spIsIntG P w K) := by
  refine Cal.of D sc_is_integer (fun vs H Q E h => ?_) (fun f cdv A outer s H vs Q E hr h => ?_)
  · obtain ⟨x, t, rfl, _⟩ := h; rfl
  · obtain ⟨x, t, rfl, ty, q⟩ := h
    have hu := hu_of hr
    have h0 := hr.units0
    refine ⟨_, (pss_one (ps_ret (pe_and (pe_callB (call_isA' (P := P) (w := w) (K := K) rfl rfl rfl) (by rfl) T.b_isinstance (by decide +kernel) (pa_cons (pv 0) (pa_cons (pe_bltn (v := .ty "int") (u := .type "int") (by rfl) T.b_int (by decide +kernel) rfl) pa_nil))) (pe_and (pe_not (pe_callB (call_isA' (P := P) (w := w) (K := K) rfl rfl rfl) (by rfl) T.b_isinstance (by decide +kernel) (pa_cons (pv 0) (pa_cons (pe_bltn (v := .ty "bool") (u := .type "bool") (by rfl) T.b_bool (by decide +kernel) rfl) pa_nil)))) (pe_one (pe_chain op_lt op_lt (pe_un un_neg (pe_const T.c_GREATEST (by rfl))) (pv 0) (pe_const T.c_GREATEST (by rfl)))))))), ?_⟩
    simp only [cxOf, Cx.nox, L2.start, tRet, tAndV, tOrV, tNotV, tCB, tCons, tNil, tVar, tC, tOp, tUn, tChain, tIfS, tTest, tSeq, tNext, tB, tOr, tAnd, tNot, tAsg, tDrop, tCall, rI0, rI, rU, List.cons_append, List.nil_append, List.append_nil, List.map_cons, List.map_nil, List.length_cons, List.length_nil, Nat.reduceAdd, Nat.reduceSub, List.replicate_succ, List.replicate_zero, List.getElem?_cons_zero, List.getElem?_cons_succ, Option.some.injEq, exists_eq_left, exists_eq_left', exists_eq_right, V.int.injEq, V.bl.injEq, V.str.injEq, V.ref.injEq, true_and, and_true, exists_and_left, if_true, if_false, gTup, gCons, gNil, gSub, gName, Mk.rSetD, List.set_cons_zero, List.set_cons_succ, Bool.false_eq_true, List.cons.injEq, Bool.not_true, Bool.not_false, eq_self, decide_true, decide_false, c3, N_is_integer]
    cases ty with
    | non => refine isA (b := false) .non rfl ?_; simp only [cxOf, Cx.nox, L2.start, tRet, tAndV, tOrV, tNotV, tCB, tCons, tNil, tVar, tC, tOp, tUn, tChain, tIfS, tTest, tSeq, tNext, tB, tOr, tAnd, tNot, tAsg, tDrop, tCall, rI0, rI, rU, List.cons_append, List.nil_append, List.append_nil, List.map_cons, List.map_nil, List.length_cons, List.length_nil, Nat.reduceAdd, Nat.reduceSub, List.replicate_succ, List.replicate_zero, List.getElem?_cons_zero, List.getElem?_cons_succ, Option.some.injEq, exists_eq_left, exists_eq_left', exists_eq_right, V.int.injEq, V.bl.injEq, V.str.injEq, V.ref.injEq, true_and, and_true, exists_and_left, if_true, if_false, gTup, gCons, gNil, gSub, gName, Mk.rSetD, List.set_cons_zero, List.set_cons_succ, Bool.false_eq_true, List.cons.injEq, Bool.not_true, Bool.not_false, eq_self, decide_true, decide_false, c3]; exact q
    | str z => refine isA (b := false) (.str z) rfl ?_; simp only [cxOf, Cx.nox, L2.start, tRet, tAndV, tOrV, tNotV, tCB, tCons, tNil, tVar, tC, tOp, tUn, tChain, tIfS, tTest, tSeq, tNext, tB, tOr, tAnd, tNot, tAsg, tDrop, tCall, rI0, rI, rU, List.cons_append, List.nil_append, List.append_nil, List.map_cons, List.map_nil, List.length_cons, List.length_nil, Nat.reduceAdd, Nat.reduceSub, List.replicate_succ, List.replicate_zero, List.getElem?_cons_zero, List.getElem?_cons_succ, Option.some.injEq, exists_eq_left, exists_eq_left', exists_eq_right, V.int.injEq, V.bl.injEq, V.str.injEq, V.ref.injEq, true_and, and_true, exists_and_left, if_true, if_false, gTup, gCons, gNil, gSub, gName, Mk.rSetD, List.set_cons_zero, List.set_cons_succ, Bool.false_eq_true, List.cons.injEq, Bool.not_true, Bool.not_false, eq_self, decide_true, decide_false, c3]; exact q
    | tup h => refine isA (b := false) (.tup h) rfl ?_; simp only [cxOf, Cx.nox, L2.start, tRet, tAndV, tOrV, tNotV, tCB, tCons, tNil, tVar, tC, tOp, tUn, tChain, tIfS, tTest, tSeq, tNext, tB, tOr, tAnd, tNot, tAsg, tDrop, tCall, rI0, rI, rU, List.cons_append, List.nil_append, List.append_nil, List.map_cons, List.map_nil, List.length_cons, List.length_nil, Nat.reduceAdd, Nat.reduceSub, List.replicate_succ, List.replicate_zero, List.getElem?_cons_zero, List.getElem?_cons_succ, Option.some.injEq, exists_eq_left, exists_eq_left', exists_eq_right, V.int.injEq, V.bl.injEq, V.str.injEq, V.ref.injEq, true_and, and_true, exists_and_left, if_true, if_false, gTup, gCons, gNil, gSub, gName, Mk.rSetD, List.set_cons_zero, List.set_cons_succ, Bool.false_eq_true, List.cons.injEq, Bool.not_true, Bool.not_false, eq_self, decide_true, decide_false, c3]; exact q
    | lst h => refine isA (b := false) (.lst h) rfl ?_; simp only [cxOf, Cx.nox, L2.start, tRet, tAndV, tOrV, tNotV, tCB, tCons, tNil, tVar, tC, tOp, tUn, tChain, tIfS, tTest, tSeq, tNext, tB, tOr, tAnd, tNot, tAsg, tDrop, tCall, rI0, rI, rU, List.cons_append, List.nil_append, List.append_nil, List.map_cons, List.map_nil, List.length_cons, List.length_nil, Nat.reduceAdd, Nat.reduceSub, List.replicate_succ, List.replicate_zero, List.getElem?_cons_zero, List.getElem?_cons_succ, Option.some.injEq, exists_eq_left, exists_eq_left', exists_eq_right, V.int.injEq, V.bl.injEq, V.str.injEq, V.ref.injEq, true_and, and_true, exists_and_left, if_true, if_false, gTup, gCons, gNil, gSub, gName, Mk.rSetD, List.set_cons_zero, List.set_cons_succ, Bool.false_eq_true, List.cons.injEq, Bool.not_true, Bool.not_false, eq_self, decide_true, decide_false, c3]; exact q
    | dic h => refine isA (b := false) (.dic h) rfl ?_; simp only [cxOf, Cx.nox, L2.start, tRet, tAndV, tOrV, tNotV, tCB, tCons, tNil, tVar, tC, tOp, tUn, tChain, tIfS, tTest, tSeq, tNext, tB, tOr, tAnd, tNot, tAsg, tDrop, tCall, rI0, rI, rU, List.cons_append, List.nil_append, List.append_nil, List.map_cons, List.map_nil, List.length_cons, List.length_nil, Nat.reduceAdd, Nat.reduceSub, List.replicate_succ, List.replicate_zero, List.getElem?_cons_zero, List.getElem?_cons_succ, Option.some.injEq, exists_eq_left, exists_eq_left', exists_eq_right, V.int.injEq, V.bl.injEq, V.str.injEq, V.ref.injEq, true_and, and_true, exists_and_left, if_true, if_false, gTup, gCons, gNil, gSub, gName, Mk.rSetD, List.set_cons_zero, List.set_cons_succ, Bool.false_eq_true, List.cons.injEq, Bool.not_true, Bool.not_false, eq_self, decide_true, decide_false, c3]; exact q
    | bl b => refine isA (b := true) (.bl b) rfl ?_; simp only [cxOf, Cx.nox, L2.start, tRet, tAndV, tOrV, tNotV, tCB, tCons, tNil, tVar, tC, tOp, tUn, tChain, tIfS, tTest, tSeq, tNext, tB, tOr, tAnd, tNot, tAsg, tDrop, tCall, rI0, rI, rU, List.cons_append, List.nil_append, List.append_nil, List.map_cons, List.map_nil, List.length_cons, List.length_nil, Nat.reduceAdd, Nat.reduceSub, List.replicate_succ, List.replicate_zero, List.getElem?_cons_zero, List.getElem?_cons_succ, Option.some.injEq, exists_eq_left, exists_eq_left', exists_eq_right, V.int.injEq, V.bl.injEq, V.str.injEq, V.ref.injEq, true_and, and_true, exists_and_left, if_true, if_false, gTup, gCons, gNil, gSub, gName, Mk.rSetD, List.set_cons_zero, List.set_cons_succ, Bool.false_eq_true, List.cons.injEq, Bool.not_true, Bool.not_false, eq_self, decide_true, decide_false, c3]; refine isA (b := true) (.bl b) rfl ?_; simp only [cxOf, Cx.nox, L2.start, tRet, tAndV, tOrV, tNotV, tCB, tCons, tNil, tVar, tC, tOp, tUn, tChain, tIfS, tTest, tSeq, tNext, tB, tOr, tAnd, tNot, tAsg, tDrop, tCall, rI0, rI, rU, List.cons_append, List.nil_append, List.append_nil, List.map_cons, List.map_nil, List.length_cons, List.length_nil, Nat.reduceAdd, Nat.reduceSub, List.replicate_succ, List.replicate_zero, List.getElem?_cons_zero, List.getElem?_cons_succ, Option.some.injEq, exists_eq_left, exists_eq_left', exists_eq_right, V.int.injEq, V.bl.injEq, V.str.injEq, V.ref.injEq, true_and, and_true, exists_and_left, if_true, if_false, gTup, gCons, gNil, gSub, gName, Mk.rSetD, List.set_cons_zero, List.set_cons_succ, Bool.false_eq_true, List.cons.injEq, Bool.not_true, Bool.not_false, eq_self, decide_true, decide_false, c3]; exact q
    | int i =>
      refine isA (b := true) (.int i) rfl ?_; simp only [cxOf, Cx.nox, L2.start, tRet, tAndV, tOrV, tNotV, tCB, tCons, tNil, tVar, tC, tOp, tUn, tChain, tIfS, tTest, tSeq, tNext, tB, tOr, tAnd, tNot, tAsg, tDrop, tCall, rI0, rI, rU, List.cons_append, List.nil_append, List.append_nil, List.map_cons, List.map_nil, List.length_cons, List.length_nil, Nat.reduceAdd, Nat.reduceSub, List.replicate_succ, List.replicate_zero, List.getElem?_cons_zero, List.getElem?_cons_succ, Option.some.injEq, exists_eq_left, exists_eq_left', exists_eq_right, V.int.injEq, V.bl.injEq, V.str.injEq, V.ref.injEq, true_and, and_true, exists_and_left, if_true, if_false, gTup, gCons, gNil, gSub, gName, Mk.rSetD, List.set_cons_zero, List.set_cons_succ, Bool.false_eq_true, List.cons.injEq, Bool.not_true, Bool.not_false, eq_self, decide_true, decide_false, c3]; refine isA (b := false) (.int i) rfl ?_
      rw [isIntB] at q
      by_cases c : -10 ^ 60 < i
      · simp only [cxOf, Cx.nox, L2.start, tRet, tAndV, tOrV, tNotV, tCB, tCons, tNil, tVar, tC, tOp, tUn, tChain, tIfS, tTest, tSeq, tNext, tB, tOr, tAnd, tNot, tAsg, tDrop, tCall, rI0, rI, rU, List.cons_append, List.nil_append, List.append_nil, List.map_cons, List.map_nil, List.length_cons, List.length_nil, Nat.reduceAdd, Nat.reduceSub, List.replicate_succ, List.replicate_zero, List.getElem?_cons_zero, List.getElem?_cons_succ, Option.some.injEq, exists_eq_left, exists_eq_left', exists_eq_right, V.int.injEq, V.bl.injEq, V.str.injEq, V.ref.injEq, true_and, and_true, exists_and_left, if_true, if_false, gTup, gCons, gNil, gSub, gName, Mk.rSetD, List.set_cons_zero, List.set_cons_succ, Bool.false_eq_true, List.cons.injEq, Bool.not_true, Bool.not_false, eq_self, decide_true, decide_false, c3, c]
        rw [decide_eq_true c, Bool.true_and] at q
        exact q
      · simp only [cxOf, Cx.nox, L2.start, tRet, tAndV, tOrV, tNotV, tCB, tCons, tNil, tVar, tC, tOp, tUn, tChain, tIfS, tTest, tSeq, tNext, tB, tOr, tAnd, tNot, tAsg, tDrop, tCall, rI0, rI, rU, List.cons_append, List.nil_append, List.append_nil, List.map_cons, List.map_nil, List.length_cons, List.length_nil, Nat.reduceAdd, Nat.reduceSub, List.replicate_succ, List.replicate_zero, List.getElem?_cons_zero, List.getElem?_cons_succ, Option.some.injEq, exists_eq_left, exists_eq_left', exists_eq_right, V.int.injEq, V.bl.injEq, V.str.injEq, V.ref.injEq, true_and, and_true, exists_and_left, if_true, if_false, gTup, gCons, gNil, gSub, gName, Mk.rSetD, List.set_cons_zero, List.set_cons_succ, Bool.false_eq_true, List.cons.injEq, Bool.not_true, Bool.not_false, eq_self, decide_true, decide_false, c3, c]
        rw [decide_eq_false c, Bool.false_and] at q
        exact q
theorem Cal.imp {x : Str} {k : Nat} {ps : List Str} {sp sp' : Sp} (C : Cal P w K mg base x k ps sp) (h : ∀ vs H Q E, sp' vs H Q E → sp vs H Q E) : Cal P w K mg base x k ps sp' :=
  let ⟨f, fd, F, g, kp, b⟩ := C
  ⟨f, fd, F.imp h, g, kp, b⟩
theorem int_of_any {k : Nat} (C : Cal P w K mg base "is_integer" k ["value"] (spIsIntG P w K)) : Cal P w K mg base "is_integer" k ["value"] spIsInt := C.imp fun vs H Q E h => by
  obtain ⟨i, rfl, h1, h2, q⟩ := h
  refine ⟨_, _, rfl, .int i, ?_⟩
  rw [isIntB, decide_eq_true h1, decide_eq_true h2]
  exact q
end
end Mk


set_option Elab.async false
set_option linter.all false
set_option maxRecDepth 100000
set_option maxHeartbeats 400000
/-! is_fitting of any value -/
namespace Mk
open PySem PySem.Spec PyProof.Rows L2
def fitsP (ds : List Dif) (kvs : List (PK × V)) : Prop := (∀ k, k ∈ kvs.map (·.1) ↔ k ∈ allPts ds) ∧ (∀ k ∈ allPts ds, ∀ x, valV kvs k = some x → isIntB x = true) ∧ valV kvs zeroP = some (.int 0) ∧
  ∀ d ∈ ds, ∀ i j, valV kvs d.1 = some (.int i) → valV kvs d.2.1 = some (.int j) → i - j ≤ d.2.2
/-- the number at k -/
def ivM (kvs : List (PK × V)) (k : PK) : Int := match valV kvs k with
  | some (.int i) => i
  | _ => 0
theorem valV_mem {kvs : List (PK × V)} {k : PK} : (valV kvs k).isSome = true ↔ k ∈ kvs.map (·.1) := by
  rw [← valV_any, List.any_eq_true, List.mem_map]
  exact ⟨fun ⟨p, a, b⟩ => ⟨p, a, of_decide_eq_true b⟩, fun ⟨p, a, b⟩ => ⟨p, a, decide_eq_true b⟩⟩
theorem valV_in {kvs : List (PK × V)} {k : PK} {x : V} (h : valV kvs k = some x) : ∃ kv ∈ kvs, kv.2 = x := by
  induction kvs with
  | nil => cases h
  | cons p kvs ih =>
    by_cases e : p.1 = k
    · rw [valV_pos e] at h
      exact ⟨p, List.mem_cons_self, Option.some.inj h⟩
    · rw [valV_neg e] at h
      obtain ⟨kv, a, b⟩ := ih h
      exact ⟨kv, List.mem_cons_of_mem _ a, b⟩
section
variable {P : Program} {w : World} {K : PySem.W.Frag} {mg : Str → Option Value} {base : Heap}
theorem TyA.gx {H H' : Hp} {x : V} {t : String} (h : TyA P w K H x t) (g : Gx H H') : TyA P w K H' x t := by
  cases h with
  | non => exact .non
  | bl b => exact .bl b
  | int i => exact .int i
  | str z => exact .str z
  | tup h => exact .tup (g.seqT h)
  | lst h => exact .lst (g.seqL h)
  | dic h => exact .dic (g.dicR h)
theorem len_same {kvs : List (PK × V)} {ks : List PK} (n1 : (kvs.map (·.1)).Nodup) (n2 : ks.Nodup) (h : ∀ k, k ∈ kvs.map (·.1) ↔ k ∈ ks) : kvs.length = ks.length := by
  have a := nodup_len n1 (r := ks) fun k hk => (h k).mp hk
  have b := nodup_len n2 (r := kvs.map (·.1)) fun k hk => (h k).mpr hk
  rw [List.length_map] at a b
  omega
theorem set_same {kvs : List (PK × V)} {ks : List PK} (n2 : ks.Nodup) (hl : kvs.length = ks.length) (h : ∀ k ∈ ks, k ∈ kvs.map (·.1)) : ∀ k, k ∈ kvs.map (·.1) → k ∈ ks := fun k hk => Classical.byContradiction fun z => by
  have := nodup_len (l := k :: ks) (r := kvs.map (·.1)) (List.nodup_cons.mpr ⟨z, n2⟩) fun x hx => by
    rcases List.mem_cons.mp hx with rfl | hx
    · exact hk
    · exact h x hx
  rw [List.length_map, List.length_cons] at this
  omega
def spIsfG (P : Program) (w : World) (K : PySem.W.Frag) : Sp := fun vs H Q _ => ∃ v x ds, vs = [v, x] ∧ DsV K H ds v ∧ GoodDs ds ∧
  ((∃ a kvs, x = .ref a ∧ DicR P w K H a kvs ∧ (kvs.map (·.1)).Nodup ∧ (∀ kv ∈ kvs, ∃ t, TyA P w K H kv.2 t) ∧ ∀ b H', Gx H H' → (b = true ↔ fitsP ds kvs) → Q (.bl b) H') ∨
   ∃ t, TyA P w K H x t ∧ kitB t "dict" = some false ∧ ∀ H', Gx H H' → Q (.bl false) H')
theorem any_is_fitting (T : Tops mg) (D : Def K mg "is_fitting" s_is_fitting ["differences", "value"]) (C_require_differences : Cal P w K mg base "require_differences" 5 ["value"] (spReqD K)) (C_points_of : Cal P w K mg base "points_of" 1 ["differences"] (spPts K)) (C_is_integer : Cal P w K mg base "is_integer" 1 ["value"] (spIsIntG P w K)) : Cal P w K mg base "is_fitting" 6 ["differences", "value"] (spIsfG P w K) := by
  refine Cal.of D sc_is_fitting (fun vs H Q E h => ?_) (fun f cdv A outer s H vs Q E hr h => ?_)
  · obtain ⟨v, x, ds, rfl, _⟩ := h; rfl
  · obtain ⟨v, vx, ds, rfl, hv, hg, alt⟩ := h
    have hu := hu_of hr
    have h0 := hr.units0
    refine ⟨_, (pss_cons (ps_expr (pe_cal C_require_differences hr (by decide) (by rfl) (pa_cons (pv 0) pa_nil)))
      (pss_cons (ps_set (i := 2) sc_is_fitting.nd rfl (Or.inl rfl) (pe_cal C_points_of hr (by decide) (by rfl) (pa_cons (pv 0) pa_nil)))
      (pss_cons (ps_if (PW.pt (pw_or (pt_not (pt_val (pe_callB (call_isA' (P := P) (w := w) (K := K) rfl rfl rfl) (by rfl) T.b_isinstance (by decide +kernel) (pa_cons (pv 1) (pa_cons (pe_bltn (v := .ty "dict") (u := .type "dict") (by rfl) T.b_dict (by decide +kernel) rfl) pa_nil))))) (pw_or (pt_cmpR op_ne (pe_callB call_lenD (by rfl) T.b_len (by decide +kernel) (pa_cons (pv 1) pa_nil)) (pe_callB call_len_seq (by rfl) T.b_len (by decide +kernel) (pa_cons (pv 2) pa_nil)) (nomark _)) (pw_or1 (pt_not (pt_val (pe_callB (cr_all rfl) (by rfl) T.b_all (by decide +kernel) (pa_cons (pe_lc (own := [("point", 3)]) rfl sc_is_fitting.nd (pi_list (pv 2)) (blkOk_by (own := [("point", 3)]) (N := N_is_fitting) (sc := defScope s_is_fitting) (by decide +kernel)) (fun _ _ _ _ _ => (pg_name (i := 3) sc_is_fitting.nd rfl (Or.inl rfl))) (fun _ _ _ _ _ => pts_nil) (fun _ _ _ _ _ => (pe_cmpR (op_inD' hu (P := P) (w := w) (K := K) rfl rfl rfl) (pv 3) (pv 1) (by rfl)))) pa_nil)))))))) (pss_one (ps_ret pe_bl)) pss_nil)
      (pss_cons (ps_if (PW.pt (pw_or (pt_not (pt_val (pe_callB (cr_all rfl) (by rfl) T.b_all (by decide +kernel) (pa_cons (pe_lc (own := [("point", 3)]) rfl sc_is_fitting.nd (pi_list (pv 2)) (blkOk_by (own := [("point", 3)]) (N := N_is_fitting) (sc := defScope s_is_fitting) (by decide +kernel)) (fun _ _ _ _ _ => (pg_name (i := 3) sc_is_fitting.nd rfl (Or.inl rfl))) (fun _ _ _ _ _ => pts_nil) (fun _ _ _ _ _ => (pe_cal C_is_integer hr (by decide) (by rfl) (pa_cons (pe_ix (ix_dic' hu (P := P) (w := w) (K := K) rfl rfl rfl) (pv 1) (pv 3) (fun _ _ => rfl)) pa_nil)))) pa_nil)))) (pw_or1 (pt_cmpR op_ne (pe_ix (ix_dic' hu (P := P) (w := w) (K := K) rfl rfl rfl) (pv 1) (pe_const T.c_ZERO (by rfl)) (fun _ _ => rfl)) pe_int (nomark _))))) (pss_one (ps_ret pe_bl)) pss_nil)
      (pss_one (ps_ret (pe_callB (cr_all rfl) (by rfl) T.b_all (by decide +kernel) (pa_cons (pe_lc (own := [("one", 4), ("other", 5), ("number", 6)]) rfl sc_is_fitting.nd (pi_tup (pv 0)) (blkOk_by (own := [("one", 4), ("other", 5), ("number", 6)]) (N := N_is_fitting) (sc := defScope s_is_fitting) (by decide +kernel)) (fun _ _ _ _ _ => (pg_tupB (K := K) (n := 3) rfl rfl (pgs_cons (pg_name (i := 4) sc_is_fitting.nd rfl (Or.inl rfl) (Or.inr rfl)) (pgs_cons (pg_name (i := 5) sc_is_fitting.nd rfl (Or.inl rfl) (Or.inr rfl)) (pgs_cons (pg_name (i := 6) sc_is_fitting.nd rfl (Or.inl rfl) (Or.inr rfl)) pgs_nil))))) (fun _ _ _ _ _ => pts_nil) (fun _ _ _ _ _ => (pe_cmpR op_le (pe_op op_sub (pe_ix (ix_dic' hu (P := P) (w := w) (K := K) rfl rfl rfl) (pv 1) (pv 4) (fun _ _ => rfl)) (pe_ix (ix_dic' hu (P := P) (w := w) (K := K) rfl rfl rfl) (pv 1) (pv 5) (fun _ _ => rfl))) (pv 6) (nomark _)))) pa_nil)))))))), ?_⟩
    simp only [cxOf, Cx.nox, L2.start, tRet, tAndV, tOrV, tNotV, tCB, tCons, tNil, tVar, tC, tOp, tUn, tChain, tIfS, tTest, tSeq, tNext, tB, tOr, tAnd, tNot, tAsg, tDrop, tCall, rI0, rI, rU, List.cons_append, List.nil_append, List.append_nil, List.map_cons, List.map_nil, List.length_cons, List.length_nil, Nat.reduceAdd, Nat.reduceSub, List.replicate_succ, List.replicate_zero, List.getElem?_cons_zero, List.getElem?_cons_succ, Option.some.injEq, exists_eq_left, exists_eq_left', exists_eq_right, V.int.injEq, V.bl.injEq, V.str.injEq, V.ref.injEq, true_and, and_true, exists_and_left, if_true, if_false, gTup, gCons, gNil, gSub, gName, Mk.rSetD, List.set_cons_zero, List.set_cons_succ, Bool.false_eq_true, List.cons.injEq, Bool.not_true, Bool.not_false, eq_self, decide_true, decide_false, c3, N_is_fitting]
    refine ⟨v, ds, rfl, hv, hg, fun H1 g1 => ⟨v, ds, rfl, hv.keep g1.tk, hg, fun H2 a ks g2 ha plv pts => ?_⟩⟩
    obtain ⟨xs, hx, pr⟩ := plv
    have g12 := g1.trans g2
    rcases alt with ⟨dn, kvs, rfl, hN, nd, hty, q⟩ | ⟨t, ty, kt, q⟩
    rotate_left
    · refine isA (b := false) (ty.gx g12) kt ?_
      simp only [cxOf, Cx.nox, L2.start, tRet, tAndV, tOrV, tNotV, tCB, tCons, tNil, tVar, tC, tOp, tUn, tChain, tIfS, tTest, tSeq, tNext, tB, tOr, tAnd, tNot, tAsg, tDrop, tCall, rI0, rI, rU, List.cons_append, List.nil_append, List.append_nil, List.map_cons, List.map_nil, List.length_cons, List.length_nil, Nat.reduceAdd, Nat.reduceSub, List.replicate_succ, List.replicate_zero, List.getElem?_cons_zero, List.getElem?_cons_succ, Option.some.injEq, exists_eq_left, exists_eq_left', exists_eq_right, V.int.injEq, V.bl.injEq, V.str.injEq, V.ref.injEq, true_and, and_true, exists_and_left, if_true, if_false, gTup, gCons, gNil, gSub, gName, Mk.rSetD, List.set_cons_zero, List.set_cons_succ, Bool.false_eq_true, List.cons.injEq, Bool.not_true, Bool.not_false, eq_self, decide_true, decide_false, c3]
      exact q _ g12
    have dR : ∀ {H'}, Gx H2 H' → DicR P w K H' dn kvs := fun g => (g12.trans g).dicR hN
    have lks : xs.length ≤ 121 := by
      rw [← Paired.length pr]
      refine Nat.le_trans (nodup_len pts.1 (fun k hk => (pts.2 k).mp hk)) ?_
      have := hg.1
      rw [allPts_len]; omega
    refine isA (b := true) (.dic (dR .refl)) rfl ?_
    simp only [cxOf, Cx.nox, L2.start, tRet, tAndV, tOrV, tNotV, tCB, tCons, tNil, tVar, tC, tOp, tUn, tChain, tIfS, tTest, tSeq, tNext, tB, tOr, tAnd, tNot, tAsg, tDrop, tCall, rI0, rI, rU, List.cons_append, List.nil_append, List.append_nil, List.map_cons, List.map_nil, List.length_cons, List.length_nil, Nat.reduceAdd, Nat.reduceSub, List.replicate_succ, List.replicate_zero, List.getElem?_cons_zero, List.getElem?_cons_succ, Option.some.injEq, exists_eq_left, exists_eq_left', exists_eq_right, V.int.injEq, V.bl.injEq, V.str.injEq, V.ref.injEq, true_and, and_true, exists_and_left, if_true, if_false, gTup, gCons, gNil, gSub, gName, Mk.rSetD, List.set_cons_zero, List.set_cons_succ, Bool.false_eq_true, List.cons.injEq, Bool.not_true, Bool.not_false, eq_self, decide_true, decide_false, c3]
    refine ⟨dn, _, rfl, dR .refl, xs, .inl (.inl (.inl hx)), rfl, ?_⟩
    by_cases cl : kvs.length = xs.length
    rotate_left
    · refine ⟨true, ?_, ?_⟩
      · simp; omega
      simp only [cxOf, Cx.nox, L2.start, tRet, tAndV, tOrV, tNotV, tCB, tCons, tNil, tVar, tC, tOp, tUn, tChain, tIfS, tTest, tSeq, tNext, tB, tOr, tAnd, tNot, tAsg, tDrop, tCall, rI0, rI, rU, List.cons_append, List.nil_append, List.append_nil, List.map_cons, List.map_nil, List.length_cons, List.length_nil, Nat.reduceAdd, Nat.reduceSub, List.replicate_succ, List.replicate_zero, List.getElem?_cons_zero, List.getElem?_cons_succ, Option.some.injEq, exists_eq_left, exists_eq_left', exists_eq_right, V.int.injEq, V.bl.injEq, V.str.injEq, V.ref.injEq, true_and, and_true, exists_and_left, if_true, if_false, gTup, gCons, gNil, gSub, gName, Mk.rSetD, List.set_cons_zero, List.set_cons_succ, Bool.false_eq_true, List.cons.injEq, Bool.not_true, Bool.not_false, eq_self, decide_true, decide_false, c3]
      exact q false _ g12 ⟨fun z => (by cases z), fun z => absurd ((len_same nd pts.1 fun k => by rw [z.1, pts.2]).trans (Paired.length pr)) cl⟩
    refine ⟨false, by simp [cl], ?_⟩
    simp only [cxOf, Cx.nox, L2.start, tRet, tAndV, tOrV, tNotV, tCB, tCons, tNil, tVar, tC, tOp, tUn, tChain, tIfS, tTest, tSeq, tNext, tB, tOr, tAnd, tNot, tAsg, tDrop, tCall, rI0, rI, rU, List.cons_append, List.nil_append, List.append_nil, List.map_cons, List.map_nil, List.length_cons, List.length_nil, Nat.reduceAdd, Nat.reduceSub, List.replicate_succ, List.replicate_zero, List.getElem?_cons_zero, List.getElem?_cons_succ, Option.some.injEq, exists_eq_left, exists_eq_left', exists_eq_right, V.int.injEq, V.bl.injEq, V.str.injEq, V.ref.injEq, true_and, and_true, exists_and_left, if_true, if_false, gTup, gCons, gNil, gSub, gName, Mk.rSetD, List.set_cons_zero, List.set_cons_succ, Bool.false_eq_true, List.cons.injEq, Bool.not_true, Bool.not_false, eq_self, decide_true, decide_false, c3]
    refine (?_ : tLc _ _ _ _ _ _ _ _)
    refine ⟨_, rfl, a, rfl, ⟨_, .inl (.inl hx)⟩, fun D hD => lc_it (walk_list (xs := xs)) (PvG H2 D (AMap ks fun k => V.bl (valV kvs k).isSome)) (PvG.ini hD .ini) (fun _ _ _ h => h.1.seqL (.inl (.inl hx))) (fun i x H3 H4 hi hP hY => ?_) (fun H3 hP => ?_)⟩
    · obtain ⟨rfl, hxi⟩ := hY
      obtain ⟨g, ys, e, am⟩ := hP
      obtain ⟨k, hkk, kx⟩ := pair_at pr hxi
      exact ⟨rfl, _, rfl, _, rfl, dn, _, k, rfl, dR g, kx.keep g.tk, PvG.put g hD e (line_lt (am.len (n := 121) (by rw [Paired.length pr]; exact lks)) (by decide)) (am.put hkk)⟩
    obtain ⟨g, ys, e, am⟩ := hP
    rw [← Paired.length pr] at am
    refine ⟨D, ks.map fun k => (valV kvs k).isSome, rfl, .inl (.inl (by rw [e, AMap.fin am, List.map_map]; rfl)), ?_⟩
    rw [all_bl]
    by_cases ci : (ks.all fun k => (valV kvs k).isSome) = true
    rotate_left
    · rw [Bool.eq_false_iff.mpr ci]
      simp only [cxOf, Cx.nox, L2.start, tRet, tAndV, tOrV, tNotV, tCB, tCons, tNil, tVar, tC, tOp, tUn, tChain, tIfS, tTest, tSeq, tNext, tB, tOr, tAnd, tNot, tAsg, tDrop, tCall, rI0, rI, rU, List.cons_append, List.nil_append, List.append_nil, List.map_cons, List.map_nil, List.length_cons, List.length_nil, Nat.reduceAdd, Nat.reduceSub, List.replicate_succ, List.replicate_zero, List.getElem?_cons_zero, List.getElem?_cons_succ, Option.some.injEq, exists_eq_left, exists_eq_left', exists_eq_right, V.int.injEq, V.bl.injEq, V.str.injEq, V.ref.injEq, true_and, and_true, exists_and_left, if_true, if_false, gTup, gCons, gNil, gSub, gName, Mk.rSetD, List.set_cons_zero, List.set_cons_succ, Bool.false_eq_true, List.cons.injEq, Bool.not_true, Bool.not_false, eq_self, decide_true, decide_false, c3]
      refine q false _ (g12.trans g) ⟨fun z => (by cases z), fun z => absurd (List.all_eq_true.mpr fun k hk => valV_mem.mpr ((z.1 k).mpr ((pts.2 k).mp hk))) ci⟩
    rw [ci]
    simp only [cxOf, Cx.nox, L2.start, tRet, tAndV, tOrV, tNotV, tCB, tCons, tNil, tVar, tC, tOp, tUn, tChain, tIfS, tTest, tSeq, tNext, tB, tOr, tAnd, tNot, tAsg, tDrop, tCall, rI0, rI, rU, List.cons_append, List.nil_append, List.append_nil, List.map_cons, List.map_nil, List.length_cons, List.length_nil, Nat.reduceAdd, Nat.reduceSub, List.replicate_succ, List.replicate_zero, List.getElem?_cons_zero, List.getElem?_cons_succ, Option.some.injEq, exists_eq_left, exists_eq_left', exists_eq_right, V.int.injEq, V.bl.injEq, V.str.injEq, V.ref.injEq, true_and, and_true, exists_and_left, if_true, if_false, gTup, gCons, gNil, gSub, gName, Mk.rSetD, List.set_cons_zero, List.set_cons_succ, Bool.false_eq_true, List.cons.injEq, Bool.not_true, Bool.not_false, eq_self, decide_true, decide_false, c3]
    have inK : ∀ k ∈ ks, k ∈ kvs.map (·.1) := fun k hk => valV_mem.mp (List.all_eq_true.mp ci k hk)
    have key : ∀ k, k ∈ kvs.map (·.1) ↔ k ∈ allPts ds := fun k => ⟨fun h => (pts.2 k).mp (set_same pts.1 (cl.trans (Paired.length pr).symm) inK k h), fun h => inK k ((pts.2 k).mpr h)⟩
    have hx3 := g _ _ hx
    have pr3 := Paired.mapP pr fun _ _ z => z.keep g.tk
    have get : ∀ {k y H'} {R : VK}, Gx H2 H' → k ∈ ks → KyV K H' k y → (∀ z, valV kvs k = some z → R z H') → Mk.rIxD P w K (.ref dn) y H' R := fun g hkk kx r => by
      obtain ⟨z, hz⟩ := Option.isSome_iff_exists.mp (valV_mem.mpr (inK _ hkk))
      exact ⟨dn, _, _, z, rfl, dR g, kx, hz, r z hz⟩
    refine ⟨_, rfl, a, rfl, ⟨_, .inl (.inl hx3)⟩, fun D2 hD2 => lc_it (walk_list (xs := xs)) (PvG H3 D2 (AMap ks fun k => V.bl (isIntB ((valV kvs k).getD .non)))) (PvG.ini hD2 .ini) (fun _ _ _ h => h.1.seqL (.inl (.inl hx3))) (fun i x H5 H6 hi hP hY => ?_) (fun H4 hP => ?_)⟩
    · obtain ⟨rfl, hxx⟩ := hY
      obtain ⟨g4, ys, e, am⟩ := hP
      obtain ⟨k, hkk, kx⟩ := pair_at pr3 hxx
      refine ⟨rfl, _, rfl, _, rfl, get (g.trans g4) (List.mem_of_getElem? hkk) (kx.keep g4.tk) fun z hz => ?_⟩
      obtain ⟨kv, hkv, ez⟩ := valV_in hz
      obtain ⟨t, ht⟩ := hty kv hkv
      rw [ez] at ht
      refine ⟨z, t, rfl, ht.gx (g12.trans (g.trans g4)), ?_⟩
      have := AMap.put (H' := upd H6 D2 (.lst (ys ++ [.bl (isIntB ((valV kvs k).getD .non))]))) am hkk
      rw [hz] at this
      exact PvG.put g4 hD2 e (line_lt (am.len (n := 121) (by rw [Paired.length pr]; exact lks)) (by decide)) this
    obtain ⟨g4, ys4, e4, am4⟩ := hP
    rw [← Paired.length pr] at am4
    refine ⟨D2, ks.map fun k => isIntB ((valV kvs k).getD .non), rfl, .inl (.inl (by rw [e4, AMap.fin am4, List.map_map]; rfl)), ?_⟩
    rw [all_bl]
    by_cases cj : (ks.all fun k => isIntB ((valV kvs k).getD .non)) = true
    rotate_left
    · rw [Bool.eq_false_iff.mpr cj]
      simp only [cxOf, Cx.nox, L2.start, tRet, tAndV, tOrV, tNotV, tCB, tCons, tNil, tVar, tC, tOp, tUn, tChain, tIfS, tTest, tSeq, tNext, tB, tOr, tAnd, tNot, tAsg, tDrop, tCall, rI0, rI, rU, List.cons_append, List.nil_append, List.append_nil, List.map_cons, List.map_nil, List.length_cons, List.length_nil, Nat.reduceAdd, Nat.reduceSub, List.replicate_succ, List.replicate_zero, List.getElem?_cons_zero, List.getElem?_cons_succ, Option.some.injEq, exists_eq_left, exists_eq_left', exists_eq_right, V.int.injEq, V.bl.injEq, V.str.injEq, V.ref.injEq, true_and, and_true, exists_and_left, if_true, if_false, gTup, gCons, gNil, gSub, gName, Mk.rSetD, List.set_cons_zero, List.set_cons_succ, Bool.false_eq_true, List.cons.injEq, Bool.not_true, Bool.not_false, eq_self, decide_true, decide_false, c3]
      refine q false _ (g12.trans (g.trans g4)) ⟨fun z => (by cases z), fun z => absurd (List.all_eq_true.mpr fun k hk => ?_) cj⟩
      obtain ⟨y, hy⟩ := Option.isSome_iff_exists.mp (valV_mem.mpr (inK _ hk))
      rw [hy]
      exact z.2.1 k ((pts.2 k).mp hk) y hy
    rw [cj]
    simp only [cxOf, Cx.nox, L2.start, tRet, tAndV, tOrV, tNotV, tCB, tCons, tNil, tVar, tC, tOp, tUn, tChain, tIfS, tTest, tSeq, tNext, tB, tOr, tAnd, tNot, tAsg, tDrop, tCall, rI0, rI, rU, List.cons_append, List.nil_append, List.append_nil, List.map_cons, List.map_nil, List.length_cons, List.length_nil, Nat.reduceAdd, Nat.reduceSub, List.replicate_succ, List.replicate_zero, List.getElem?_cons_zero, List.getElem?_cons_succ, Option.some.injEq, exists_eq_left, exists_eq_left', exists_eq_right, V.int.injEq, V.bl.injEq, V.str.injEq, V.ref.injEq, true_and, and_true, exists_and_left, if_true, if_false, gTup, gCons, gNil, gSub, gName, Mk.rSetD, List.set_cons_zero, List.set_cons_succ, Bool.false_eq_true, List.cons.injEq, Bool.not_true, Bool.not_false, eq_self, decide_true, decide_false, c3]
    have allI : ∀ k ∈ ks, ∃ i, valV kvs k = some (.int i) := fun k hk => by
      obtain ⟨y, hy⟩ := Option.isSome_iff_exists.mp (valV_mem.mpr (inK _ hk))
      have := List.all_eq_true.mp cj k hk
      rw [hy] at this
      cases y with
      | int i => exact ⟨i, hy⟩
      | _ => cases this
    have ib : ∀ k ∈ allPts ds, ∀ x, valV kvs k = some x → isIntB x = true := fun k hk x hy => by
      have := List.all_eq_true.mp cj k ((pts.2 k).mpr hk)
      rw [hy] at this
      exact this
    have z0 : zeroP ∈ ks := (pts.2 _).mpr List.mem_cons_self
    obtain ⟨c, hc⟩ := allI _ z0
    refine get (k := zeroP) (g.trans g4) z0 rfl fun z hz => ?_
    rw [hc] at hz
    cases hz
    refine ⟨rfl, ?_⟩
    by_cases c0 : c = 0
    rotate_left
    · refine ⟨true, by simp [c0], ?_⟩
      simp only [cxOf, Cx.nox, L2.start, tRet, tAndV, tOrV, tNotV, tCB, tCons, tNil, tVar, tC, tOp, tUn, tChain, tIfS, tTest, tSeq, tNext, tB, tOr, tAnd, tNot, tAsg, tDrop, tCall, rI0, rI, rU, List.cons_append, List.nil_append, List.append_nil, List.map_cons, List.map_nil, List.length_cons, List.length_nil, Nat.reduceAdd, Nat.reduceSub, List.replicate_succ, List.replicate_zero, List.getElem?_cons_zero, List.getElem?_cons_succ, Option.some.injEq, exists_eq_left, exists_eq_left', exists_eq_right, V.int.injEq, V.bl.injEq, V.str.injEq, V.ref.injEq, true_and, and_true, exists_and_left, if_true, if_false, gTup, gCons, gNil, gSub, gName, Mk.rSetD, List.set_cons_zero, List.set_cons_succ, Bool.false_eq_true, List.cons.injEq, Bool.not_true, Bool.not_false, eq_self, decide_true, decide_false, c3]
      exact q false _ (g12.trans (g.trans g4)) ⟨fun z => (by cases z), fun z => by have := z.2.2.1; rw [hc] at this; cases this; exact absurd rfl c0⟩
    refine ⟨false, by simp [c0], ?_⟩
    subst c0
    simp only [cxOf, Cx.nox, L2.start, tRet, tAndV, tOrV, tNotV, tCB, tCons, tNil, tVar, tC, tOp, tUn, tChain, tIfS, tTest, tSeq, tNext, tB, tOr, tAnd, tNot, tAsg, tDrop, tCall, rI0, rI, rU, List.cons_append, List.nil_append, List.append_nil, List.map_cons, List.map_nil, List.length_cons, List.length_nil, Nat.reduceAdd, Nat.reduceSub, List.replicate_succ, List.replicate_zero, List.getElem?_cons_zero, List.getElem?_cons_succ, Option.some.injEq, exists_eq_left, exists_eq_left', exists_eq_right, V.int.injEq, V.bl.injEq, V.str.injEq, V.ref.injEq, true_and, and_true, exists_and_left, if_true, if_false, gTup, gCons, gNil, gSub, gName, Mk.rSetD, List.set_cons_zero, List.set_cons_succ, Bool.false_eq_true, List.cons.injEq, Bool.not_true, Bool.not_false, eq_self, decide_true, decide_false, c3]
    obtain ⟨t, ts, rfl, ht, prd⟩ := (hv.keep g12.tk).keep (g.trans g4).tk
    have lt : ts.length ≤ 60 := by rw [← Paired.length prd]; exact hg.1
    have ivk : ∀ k ∈ ks, valV kvs k = some (.int (ivM kvs k)) := fun k hk => by
      obtain ⟨i, hi⟩ := allI k hk
      rw [ivM, hi]
    refine ⟨_, rfl, t, rfl, ⟨_, ht⟩, fun D3 hD3 => lc_it (walk_tup (xs := ts)) (PvG H4 D3 (AMap ds fun d => V.bl (decide (ivM kvs d.1 - ivM kvs d.2.1 ≤ d.2.2)))) (PvG.ini hD3 .ini) (fun _ _ _ h => h.1.seqT ht) (fun i x H5 H6 hi hP hY => ?_) (fun H5 hP => ?_)⟩
    · obtain ⟨rfl, hxx⟩ := hY
      obtain ⟨g5, ys, e, am⟩ := hP
      obtain ⟨d, hd, dx⟩ := pair_at prd hxx
      obtain ⟨p, x1, x2, rfl, hp, k1, k2⟩ := dx.keep g5.tk
      have dm := List.mem_of_getElem? hd
      have g45 := (g.trans g4).trans g5
      refine ⟨p, _, rfl, hp, rfl, _, _, rfl, _, _, rfl, _, _, rfl, rfl, rfl, _, rfl, _, rfl, get g45 (pts_l pts dm) k1 fun z1 hz1 => ⟨_, rfl, _, rfl, get g45 (pts_r pts dm) k2 fun z2 hz2 => ?_⟩⟩
      rw [ivk _ (pts_l pts dm)] at hz1
      rw [ivk _ (pts_r pts dm)] at hz2
      cases hz1
      cases hz2
      exact ⟨_, _, rfl, rfl, _, rfl, _, _, rfl, rfl, PvG.put g5 hD3 e (line_lt (am.len hg.1) (by decide)) (am.put hd)⟩
    obtain ⟨g5, ys5, e5, am5⟩ := hP
    rw [← Paired.length prd] at am5
    refine ⟨D3, ds.map fun d => decide (ivM kvs d.1 - ivM kvs d.2.1 ≤ d.2.2), rfl, .inl (.inl (by rw [e5, AMap.fin am5, List.map_map]; rfl)), ?_⟩
    rw [all_bl]
    refine q _ _ (g12.trans ((g.trans g4).trans g5)) ⟨fun z => ⟨key, ib, hc, fun d hd i j hi hj => ?_⟩, fun z => List.all_eq_true.mpr fun d hd => decide_eq_true (z.2.2.2 d hd _ _ (ivk _ (pts_l pts hd)) (ivk _ (pts_r pts hd)))⟩
    have := of_decide_eq_true (List.all_eq_true.mp z d hd)
    rw [ivk _ (pts_l pts hd)] at hi
    rw [ivk _ (pts_r pts hd)] at hj
    cases hi
    cases hj
    exact this
end
end Mk


set_option Elab.async false
set_option linter.all false
set_option maxRecDepth 100000
set_option maxHeartbeats 400000
/-! the law's own judge of numbers -/
namespace Mk
open PySem PySem.Spec PyProof.Rows L2
theorem isEmpty_iff' {α : Type} {l : List α} : l.isEmpty = true ↔ l = [] := List.isEmpty_iff
def trueV (ds : List Dif) (kvs : List (PK × V)) : Bool := ds.all fun d => decide (ivM kvs d.1 - ivM kvs d.2.1 ≤ d.2.2)
section
variable {P : Program} {w : World} {K : PySem.W.Frag} {mg : Str → Option Value} {base : Heap}
/-- row[0], row[1], row[2] -/
theorem row_ok' {H : Hp} {σ : L2.St} {d : Dif} {x : V} {i : Nat} (hi : σ[i]? = some (some x)) (hx : DifV K H d x) : (∀ R : VK, (∀ y, KyV K H d.1 y → R y H) → tOp (rIxT K) (tVar i) (tC (V.int 0)) σ H R) ∧ (∀ R : VK, (∀ y, KyV K H d.2.1 y → R y H) → tOp (rIxT K) (tVar i) (tC (V.int 1)) σ H R) ∧
    ∀ R : VK, R (.int d.2.2) H → tOp (rIxT K) (tVar i) (tC (V.int 2)) σ H R := by
  obtain ⟨p, y1, y2, rfl, hp, k1, k2⟩ := hx
  exact ⟨fun R q => ⟨_, hi, p, _, 0, _, rfl, rfl, hp, atI_nat (j := 0) rfl, q _ k1⟩, fun R q => ⟨_, hi, p, _, 1, _, rfl, rfl, hp, atI_nat (j := 1) rfl, q _ k2⟩, fun R q => ⟨_, hi, p, _, 2, _, rfl, rfl, hp, atI_nat (j := 2) rfl, q⟩⟩
def spAreG (P : Program) (w : World) (K : PySem.W.Frag) : Sp := fun vs H Q _ => ∃ v d ds kvs, vs = [v, .ref d] ∧ DsV K H ds v ∧ ds.length ≤ 60 ∧ DicR P w K H d kvs ∧ (∀ k ∈ allPts ds, ∃ i, valV kvs k = some (.int i)) ∧ ∀ H', Gx H H' → Q (.bl (trueV ds kvs)) H'
theorem any_are_true (T : Tops mg) (D : Def K mg "_law_are_true" s__law_are_true ["differences", "numbers"]) : Cal P w K mg base "_law_are_true" 1 ["differences", "numbers"] (spAreG P w K) := by
  refine Cal.of D sc__law_are_true (fun vs H Q E h => ?_) (fun f cdv A outer s H vs Q E hr h => ?_)
  · obtain ⟨v, d, ds, N, rfl, _⟩ := h; rfl
  · obtain ⟨v, d, ds, kvs, rfl, ⟨a, vs, rfl, hS, hv⟩, hl, hN, hk, q⟩ := h
    have hu := hu_of hr
    have h0 := hr.units0
    refine ⟨_, (pss_one (ps_ret (pe_cmpR (op_eqE h0) (pe_lc (own := [("row", 2)]) rfl sc__law_are_true.nd (pi_tup (pv 0)) (blkOk_by (own := [("row", 2)]) (N := N__law_are_true) (sc := defScope s__law_are_true) (by decide +kernel)) (fun _ _ _ _ _ => (pg_name (i := 2) sc__law_are_true.nd rfl (Or.inl rfl))) (fun _ _ _ _ _ => (pts_one (pt_cmpR op_gt (pe_op op_sub (pe_ix (ix_dic' hu (P := P) (w := w) (K := K) rfl rfl rfl) (pv 1) (pe_ix (ix_tup' (K := K) rfl) (pv 2) pe_int (fun _ _ => rfl)) (fun _ _ => rfl)) (pe_ix (ix_dic' hu (P := P) (w := w) (K := K) rfl rfl rfl) (pv 1) (pe_ix (ix_tup' (K := K) rfl) (pv 2) pe_int (fun _ _ => rfl)) (fun _ _ => rfl))) (pe_ix (ix_tup' (K := K) rfl) (pv 2) pe_int (fun _ _ => rfl)) (nomark _)))) (fun _ _ _ _ _ => (pv 2))) (pe_lst pa_nil) (nomark _)))), ?_⟩
    have lv : vs.length ≤ 60 := by rw [← Paired.length hv]; exact hl
    refine ⟨_, rfl, a, rfl, ⟨_, hS⟩, fun D hD => lc_it (walk_tup (xs := vs)) (PvG H D fun i ys _ => ys.length ≤ i ∧ ys.isEmpty = trueV (ds.take i) kvs) (PvG.ini hD ⟨Nat.le_refl _, by rw [List.take_zero]; rfl⟩) (fun _ _ _ h => h.1.seqT hS) (fun i x H1 H2 hi hP hY => ?_) (fun H1 hP => ?_)⟩
    · obtain ⟨rfl, hx⟩ := hY
      obtain ⟨g, ys, e, ly, am⟩ := hP
      obtain ⟨d', hd', dx⟩ := pair_at hv hx
      have dx := dx.keep g.tk
      have dm := List.mem_of_getElem? hd'
      have get : ∀ {k y} {R : VK}, k ∈ allPts ds → KyV K H2 k y → R (.int (ivM kvs k)) H2 → Mk.rIxD P w K (.ref d) y H2 R := fun hkk ky r => by
        obtain ⟨b, hb⟩ := hk _ hkk
        rw [ivM, hb] at r
        exact ⟨d, _, _, .int b, rfl, g.dicR hN, ky, hb, r⟩
      have m1 : d'.1 ∈ allPts ds := List.mem_cons_of_mem _ (List.mem_flatMap.mpr ⟨d', dm, by simp⟩)
      have m2 : d'.2.1 ∈ allPts ds := List.mem_cons_of_mem _ (List.mem_flatMap.mpr ⟨d', dm, by simp⟩)
      have tk : trueV (ds.take (i + 1)) kvs = (trueV (ds.take i) kvs && decide (ivM kvs d'.1 - ivM kvs d'.2.1 ≤ d'.2.2)) := by rw [take_s hd', trueV, trueV, List.all_append]; simp
      refine ⟨rfl, ?_⟩
      refine ⟨_, rfl, (row_ok' (i := 2) rfl dx).1 _ fun y1 k1 => get m1 k1 ⟨_, rfl, (row_ok' (i := 2) rfl dx).2.1 _ fun y2 k2 => get m2 k2 ⟨_, _, rfl, rfl, (row_ok' (i := 2) rfl dx).2.2 _ ⟨_, _, rfl, rfl, _, rfl, ?_⟩⟩⟩⟩
      by_cases c : d'.2.2 < ivM kvs d'.1 - ivM kvs d'.2.1
      · rw [decide_eq_true c]
        refine ⟨x, rfl, PvG.put g hD e (line_lt (m := 60) (by omega)) ⟨by rw [List.length_append]; simp; omega, ?_⟩⟩
        rw [tk, decide_eq_false (by omega), Bool.and_false]
        simp
      · rw [decide_eq_false c]
        refine ⟨g, ys, e, by omega, ?_⟩
        rw [tk, decide_eq_true (by omega), Bool.and_true]
        exact am
    · obtain ⟨g, ys, e, ly, am⟩ := hP
      rw [← Paired.length hv, List.take_length] at am
      refine ⟨Nat.zero_le _, fun E2 hE => ⟨D, E2, ys, rfl, rfl, .inl (.inl ((Gx.new hE) _ _ e)), .inl (.inl upd_same), ?_⟩⟩
      rw [am]
      exact q _ (g.trans (.new hE))
theorem any_is_whole (T : Tops mg) (D : Def K mg "_law_is_whole" s__law_is_whole ["value"]) : Cal P w K mg base "_law_is_whole" 1 ["value"] (spIsIntG P w K) := by
  refine Cal.of D sc__law_is_whole (fun vs H Q E h => ?_) (fun f cdv A outer s H vs Q E hr h => ?_)
  · obtain ⟨x, t, rfl, _⟩ := h; rfl
  · obtain ⟨x, t, rfl, ty, q⟩ := h
    have hu := hu_of hr
    have h0 := hr.units0
    refine ⟨_, (pss_one (ps_ret (pe_and (pe_callB (call_isA' (P := P) (w := w) (K := K) rfl rfl rfl) (by rfl) T.b_isinstance (by decide +kernel) (pa_cons (pv 0) (pa_cons (pe_bltn (v := .ty "int") (u := .type "int") (by rfl) T.b_int (by decide +kernel) rfl) pa_nil))) (pe_and (pe_not (pe_callB (call_isA' (P := P) (w := w) (K := K) rfl rfl rfl) (by rfl) T.b_isinstance (by decide +kernel) (pa_cons (pv 0) (pa_cons (pe_bltn (v := .ty "bool") (u := .type "bool") (by rfl) T.b_bool (by decide +kernel) rfl) pa_nil)))) (pe_one (pe_cmpR op_lt (pe_callB call_abs (by rfl) T.b_abs (by decide +kernel) (pa_cons (pv 0) pa_nil)) (pe_op op_powB pe_int pe_int) (nomark _))))))), ?_⟩
    simp only [cxOf, Cx.nox, L2.start, tRet, tAndV, tOrV, tNotV, tCB, tCons, tNil, tVar, tC, tOp, tUn, tChain, tIfS, tTest, tSeq, tNext, tB, tOr, tAnd, tNot, tAsg, tDrop, tCall, rI0, rI, rU, List.cons_append, List.nil_append, List.append_nil, List.map_cons, List.map_nil, List.length_cons, List.length_nil, Nat.reduceAdd, Nat.reduceSub, List.replicate_succ, List.replicate_zero, List.getElem?_cons_zero, List.getElem?_cons_succ, Option.some.injEq, exists_eq_left, exists_eq_left', exists_eq_right, V.int.injEq, V.bl.injEq, V.str.injEq, V.ref.injEq, true_and, and_true, exists_and_left, if_true, if_false, gTup, gCons, gNil, gSub, gName, Mk.rSetD, List.set_cons_zero, List.set_cons_succ, Bool.false_eq_true, List.cons.injEq, Bool.not_true, Bool.not_false, eq_self, decide_true, decide_false, c3, N__law_is_whole]
    cases ty with
    | non => refine isA (b := false) .non rfl ?_; simp only [cxOf, Cx.nox, L2.start, tRet, tAndV, tOrV, tNotV, tCB, tCons, tNil, tVar, tC, tOp, tUn, tChain, tIfS, tTest, tSeq, tNext, tB, tOr, tAnd, tNot, tAsg, tDrop, tCall, rI0, rI, rU, List.cons_append, List.nil_append, List.append_nil, List.map_cons, List.map_nil, List.length_cons, List.length_nil, Nat.reduceAdd, Nat.reduceSub, List.replicate_succ, List.replicate_zero, List.getElem?_cons_zero, List.getElem?_cons_succ, Option.some.injEq, exists_eq_left, exists_eq_left', exists_eq_right, V.int.injEq, V.bl.injEq, V.str.injEq, V.ref.injEq, true_and, and_true, exists_and_left, if_true, if_false, gTup, gCons, gNil, gSub, gName, Mk.rSetD, List.set_cons_zero, List.set_cons_succ, Bool.false_eq_true, List.cons.injEq, Bool.not_true, Bool.not_false, eq_self, decide_true, decide_false, c3]; exact q
    | str z => refine isA (b := false) (.str z) rfl ?_; simp only [cxOf, Cx.nox, L2.start, tRet, tAndV, tOrV, tNotV, tCB, tCons, tNil, tVar, tC, tOp, tUn, tChain, tIfS, tTest, tSeq, tNext, tB, tOr, tAnd, tNot, tAsg, tDrop, tCall, rI0, rI, rU, List.cons_append, List.nil_append, List.append_nil, List.map_cons, List.map_nil, List.length_cons, List.length_nil, Nat.reduceAdd, Nat.reduceSub, List.replicate_succ, List.replicate_zero, List.getElem?_cons_zero, List.getElem?_cons_succ, Option.some.injEq, exists_eq_left, exists_eq_left', exists_eq_right, V.int.injEq, V.bl.injEq, V.str.injEq, V.ref.injEq, true_and, and_true, exists_and_left, if_true, if_false, gTup, gCons, gNil, gSub, gName, Mk.rSetD, List.set_cons_zero, List.set_cons_succ, Bool.false_eq_true, List.cons.injEq, Bool.not_true, Bool.not_false, eq_self, decide_true, decide_false, c3]; exact q
    | tup h => refine isA (b := false) (.tup h) rfl ?_; simp only [cxOf, Cx.nox, L2.start, tRet, tAndV, tOrV, tNotV, tCB, tCons, tNil, tVar, tC, tOp, tUn, tChain, tIfS, tTest, tSeq, tNext, tB, tOr, tAnd, tNot, tAsg, tDrop, tCall, rI0, rI, rU, List.cons_append, List.nil_append, List.append_nil, List.map_cons, List.map_nil, List.length_cons, List.length_nil, Nat.reduceAdd, Nat.reduceSub, List.replicate_succ, List.replicate_zero, List.getElem?_cons_zero, List.getElem?_cons_succ, Option.some.injEq, exists_eq_left, exists_eq_left', exists_eq_right, V.int.injEq, V.bl.injEq, V.str.injEq, V.ref.injEq, true_and, and_true, exists_and_left, if_true, if_false, gTup, gCons, gNil, gSub, gName, Mk.rSetD, List.set_cons_zero, List.set_cons_succ, Bool.false_eq_true, List.cons.injEq, Bool.not_true, Bool.not_false, eq_self, decide_true, decide_false, c3]; exact q
    | lst h => refine isA (b := false) (.lst h) rfl ?_; simp only [cxOf, Cx.nox, L2.start, tRet, tAndV, tOrV, tNotV, tCB, tCons, tNil, tVar, tC, tOp, tUn, tChain, tIfS, tTest, tSeq, tNext, tB, tOr, tAnd, tNot, tAsg, tDrop, tCall, rI0, rI, rU, List.cons_append, List.nil_append, List.append_nil, List.map_cons, List.map_nil, List.length_cons, List.length_nil, Nat.reduceAdd, Nat.reduceSub, List.replicate_succ, List.replicate_zero, List.getElem?_cons_zero, List.getElem?_cons_succ, Option.some.injEq, exists_eq_left, exists_eq_left', exists_eq_right, V.int.injEq, V.bl.injEq, V.str.injEq, V.ref.injEq, true_and, and_true, exists_and_left, if_true, if_false, gTup, gCons, gNil, gSub, gName, Mk.rSetD, List.set_cons_zero, List.set_cons_succ, Bool.false_eq_true, List.cons.injEq, Bool.not_true, Bool.not_false, eq_self, decide_true, decide_false, c3]; exact q
    | dic h => refine isA (b := false) (.dic h) rfl ?_; simp only [cxOf, Cx.nox, L2.start, tRet, tAndV, tOrV, tNotV, tCB, tCons, tNil, tVar, tC, tOp, tUn, tChain, tIfS, tTest, tSeq, tNext, tB, tOr, tAnd, tNot, tAsg, tDrop, tCall, rI0, rI, rU, List.cons_append, List.nil_append, List.append_nil, List.map_cons, List.map_nil, List.length_cons, List.length_nil, Nat.reduceAdd, Nat.reduceSub, List.replicate_succ, List.replicate_zero, List.getElem?_cons_zero, List.getElem?_cons_succ, Option.some.injEq, exists_eq_left, exists_eq_left', exists_eq_right, V.int.injEq, V.bl.injEq, V.str.injEq, V.ref.injEq, true_and, and_true, exists_and_left, if_true, if_false, gTup, gCons, gNil, gSub, gName, Mk.rSetD, List.set_cons_zero, List.set_cons_succ, Bool.false_eq_true, List.cons.injEq, Bool.not_true, Bool.not_false, eq_self, decide_true, decide_false, c3]; exact q
    | bl b => refine isA (b := true) (.bl b) rfl ?_; simp only [cxOf, Cx.nox, L2.start, tRet, tAndV, tOrV, tNotV, tCB, tCons, tNil, tVar, tC, tOp, tUn, tChain, tIfS, tTest, tSeq, tNext, tB, tOr, tAnd, tNot, tAsg, tDrop, tCall, rI0, rI, rU, List.cons_append, List.nil_append, List.append_nil, List.map_cons, List.map_nil, List.length_cons, List.length_nil, Nat.reduceAdd, Nat.reduceSub, List.replicate_succ, List.replicate_zero, List.getElem?_cons_zero, List.getElem?_cons_succ, Option.some.injEq, exists_eq_left, exists_eq_left', exists_eq_right, V.int.injEq, V.bl.injEq, V.str.injEq, V.ref.injEq, true_and, and_true, exists_and_left, if_true, if_false, gTup, gCons, gNil, gSub, gName, Mk.rSetD, List.set_cons_zero, List.set_cons_succ, Bool.false_eq_true, List.cons.injEq, Bool.not_true, Bool.not_false, eq_self, decide_true, decide_false, c3]; refine isA (b := true) (.bl b) rfl ?_; simp only [cxOf, Cx.nox, L2.start, tRet, tAndV, tOrV, tNotV, tCB, tCons, tNil, tVar, tC, tOp, tUn, tChain, tIfS, tTest, tSeq, tNext, tB, tOr, tAnd, tNot, tAsg, tDrop, tCall, rI0, rI, rU, List.cons_append, List.nil_append, List.append_nil, List.map_cons, List.map_nil, List.length_cons, List.length_nil, Nat.reduceAdd, Nat.reduceSub, List.replicate_succ, List.replicate_zero, List.getElem?_cons_zero, List.getElem?_cons_succ, Option.some.injEq, exists_eq_left, exists_eq_left', exists_eq_right, V.int.injEq, V.bl.injEq, V.str.injEq, V.ref.injEq, true_and, and_true, exists_and_left, if_true, if_false, gTup, gCons, gNil, gSub, gName, Mk.rSetD, List.set_cons_zero, List.set_cons_succ, Bool.false_eq_true, List.cons.injEq, Bool.not_true, Bool.not_false, eq_self, decide_true, decide_false, c3]; exact q
    | int i =>
      refine isA (b := true) (.int i) rfl ?_; simp only [cxOf, Cx.nox, L2.start, tRet, tAndV, tOrV, tNotV, tCB, tCons, tNil, tVar, tC, tOp, tUn, tChain, tIfS, tTest, tSeq, tNext, tB, tOr, tAnd, tNot, tAsg, tDrop, tCall, rI0, rI, rU, List.cons_append, List.nil_append, List.append_nil, List.map_cons, List.map_nil, List.length_cons, List.length_nil, Nat.reduceAdd, Nat.reduceSub, List.replicate_succ, List.replicate_zero, List.getElem?_cons_zero, List.getElem?_cons_succ, Option.some.injEq, exists_eq_left, exists_eq_left', exists_eq_right, V.int.injEq, V.bl.injEq, V.str.injEq, V.ref.injEq, true_and, and_true, exists_and_left, if_true, if_false, gTup, gCons, gNil, gSub, gName, Mk.rSetD, List.set_cons_zero, List.set_cons_succ, Bool.false_eq_true, List.cons.injEq, Bool.not_true, Bool.not_false, eq_self, decide_true, decide_false, c3]; refine isA (b := false) (.int i) rfl ?_
      simp only [cxOf, Cx.nox, L2.start, tRet, tAndV, tOrV, tNotV, tCB, tCons, tNil, tVar, tC, tOp, tUn, tChain, tIfS, tTest, tSeq, tNext, tB, tOr, tAnd, tNot, tAsg, tDrop, tCall, rI0, rI, rU, List.cons_append, List.nil_append, List.append_nil, List.map_cons, List.map_nil, List.length_cons, List.length_nil, Nat.reduceAdd, Nat.reduceSub, List.replicate_succ, List.replicate_zero, List.getElem?_cons_zero, List.getElem?_cons_succ, Option.some.injEq, exists_eq_left, exists_eq_left', exists_eq_right, V.int.injEq, V.bl.injEq, V.str.injEq, V.ref.injEq, true_and, and_true, exists_and_left, if_true, if_false, gTup, gCons, gNil, gSub, gName, Mk.rSetD, List.set_cons_zero, List.set_cons_succ, Bool.false_eq_true, List.cons.injEq, Bool.not_true, Bool.not_false, eq_self, decide_true, decide_false, c3]
      refine ⟨by decide, ?_⟩
      rw [isIntB, ← Bool.decide_and] at q
      rw [show (10 : Int) ^ Int.toNat 60 = 10 ^ 60 from rfl]
      generalize (10 : Int) ^ 60 = B at *
      rw [show decide ((if i < 0 then -i else i) < B) = decide (-B < i ∧ i < B) by
        by_cases z : i < 0
        · rw [if_pos z]; exact decide_eq_decide.mpr (by omega)
        · rw [if_neg z]; exact decide_eq_decide.mpr (by omega)]
      exact q
theorem filt_lstG {p : PK → Bool} {tt : TT} {σ : L2.St} {H : Hp} {a : Addr} {Q : VK} {ks : List PK} {i j : Nat} (hσ : σ[i]? = some (some (.ref a))) (hj : j < σ.length) (plv : PLV K H a ks) (hl : ks.length ≤ 1000)
    (ht : ∀ k ∈ ks, ∀ x H' (R : Bool → Hp → Prop), Gx H H' → KyV K H' k x → R (p k) H' → tt ((σ.set j none).set j (some x)) H' R)
    (q : ∀ H' r, Gx H H' → H r = none → PLV K H' r (ks.filter p) → Q (.ref r) H') : tLc (iList K (tVar i)) (gName j) tt (tVar j) [j] σ H Q := by
  obtain ⟨xs, hx, pr⟩ := plv
  refine ⟨_, hσ, a, rfl, ⟨_, .inl (.inl hx)⟩, fun D hD => lc_it (walk_list (xs := xs)) (PvG H D fun n ys H' => Paired (KyV K H') ((ks.take n).filter p) ys) (PvG.ini hD (by rw [List.take_zero]; exact .nil))
    (fun _ H2 _ h => h.1.seqL (.inl (.inl hx))) (fun n x H1 H2 hn hP hY => ?_) (fun H1 hP => ?_)⟩
  · obtain ⟨rfl, hxn⟩ := hY
    obtain ⟨g, ys, e, am⟩ := hP
    obtain ⟨k, hk, ky⟩ := pair_at pr hxn
    have ky := ky.keep g.tk
    refine ⟨?_, ?_⟩
    · show ((σ.set j none).set j (some x)).set j none = σ.set j none
      rw [List.set_set, List.set_set]
    · have gj : ((σ.set j none).set j (some x))[j]? = some (some x) := by rw [List.set_set, List.getElem?_set_self hj]
      refine ht k (List.mem_of_getElem? hk) x H2 _ g ky ?_
      by_cases c : p k = true
      · rw [if_pos c]
        refine ⟨x, gj, PvG.put g hD e ?_ ?_⟩
        · rw [← Paired.length am]
          exact line_lt (Nat.le_trans (List.length_filter_le _ _) (take_len hl)) (m := 1000)
        · rw [take_s hk, List.filter_append, List.filter_cons_of_pos c]
          exact pair_snoc (Paired.mapP am fun _ _ z => z.keep (Tk.mut (by rw [e]; exact True.intro))) (ky.keep (Tk.mut (by rw [e]; exact True.intro)))
      · rw [if_neg c]
        refine ⟨g, ys, e, ?_⟩
        dsimp only
        rw [take_s hk, List.filter_append, List.filter_cons_of_neg c]
        simpa using am
  · obtain ⟨g, ys, e, am⟩ := hP
    rw [← Paired.length pr, List.take_length] at am
    exact q _ _ g hD ⟨ys, e, am⟩
def spFdue (P : Program) (w : World) (K : PySem.W.Frag) : Sp := spIsfG P w K
theorem any_fits_due (T : Tops mg) (D : Def K mg "_law_fits_due" s__law_fits_due ["differences", "value"]) (C__law_points_in : Cal P w K mg base "_law_points_in" 1 ["differences"] (spPts K)) (C__law_is_whole : Cal P w K mg base "_law_is_whole" 1 ["value"] (spIsIntG P w K)) (C__law_are_true : Cal P w K mg base "_law_are_true" 1 ["differences", "numbers"] (spAreG P w K)) : Cal P w K mg base "_law_fits_due" 2 ["differences", "value"] (spIsfG P w K) := by
  refine Cal.of D sc__law_fits_due (fun vs H Q E h => ?_) (fun f cdv A outer s H vs Q E hr h => ?_)
  · obtain ⟨v, x, ds, rfl, _⟩ := h; rfl
  · obtain ⟨v, vx, ds, rfl, hv, hg, alt⟩ := h
    have hu := hu_of hr
    have h0 := hr.units0
    refine ⟨_, (pss_cons (ps_set (i := 2) sc__law_fits_due.nd rfl (Or.inl rfl) (pe_cal C__law_points_in hr (by decide) (by rfl) (pa_cons (pv 0) pa_nil)))
      (pss_cons (ps_if (PW.pt (pw_or (pt_not (pt_val (pe_callB (call_isA' (P := P) (w := w) (K := K) rfl rfl rfl) (by rfl) T.b_isinstance (by decide +kernel) (pa_cons (pv 1) (pa_cons (pe_bltn (v := .ty "dict") (u := .type "dict") (by rfl) T.b_dict (by decide +kernel) rfl) pa_nil))))) (pw_or1 (pt_cmpR op_ne (pe_callB call_lenD (by rfl) T.b_len (by decide +kernel) (pa_cons (pv 1) pa_nil)) (pe_callB call_len_seq (by rfl) T.b_len (by decide +kernel) (pa_cons (pv 2) pa_nil)) (nomark _))))) (pss_one (ps_ret pe_bl)) pss_nil)
      (pss_cons (ps_if (pt_cmpR (op_neE h0) (pe_lc (own := [("point", 3)]) rfl sc__law_fits_due.nd (pi_list (pv 2)) (blkOk_by (own := [("point", 3)]) (N := N__law_fits_due) (sc := defScope s__law_fits_due) (by decide +kernel)) (fun _ _ _ _ _ => (pg_name (i := 3) sc__law_fits_due.nd rfl (Or.inl rfl))) (fun _ _ _ _ _ => (pts_one (pt_cmpR (op_notInD' hu (P := P) (w := w) (K := K) rfl rfl rfl) (pv 3) (pv 1) (by rfl)))) (fun _ _ _ _ _ => (pv 3))) (pe_lst pa_nil) (nomark _)) (pss_one (ps_ret pe_bl)) pss_nil)
      (pss_cons (ps_if (PW.pt (pw_or (pt_cmpR (op_neE h0) (pe_lc (own := [("point", 3)]) rfl sc__law_fits_due.nd (pi_list (pv 2)) (blkOk_by (own := [("point", 3)]) (N := N__law_fits_due) (sc := defScope s__law_fits_due) (by decide +kernel)) (fun _ _ _ _ _ => (pg_name (i := 3) sc__law_fits_due.nd rfl (Or.inl rfl))) (fun _ _ _ _ _ => (pts_one (pt_not (pt_val (pe_cal C__law_is_whole hr (by decide) (by rfl) (pa_cons (pe_ix (ix_dic' hu (P := P) (w := w) (K := K) rfl rfl rfl) (pv 1) (pv 3) (fun _ _ => rfl)) pa_nil)))))) (fun _ _ _ _ _ => (pv 3))) (pe_lst pa_nil) (nomark _)) (pw_or1 (pt_cmpR op_ne (pe_ix (ix_dic' hu (P := P) (w := w) (K := K) rfl rfl rfl) (pv 1) pe_str (fun _ _ => rfl)) pe_int (nomark _))))) (pss_one (ps_ret pe_bl)) pss_nil)
      (pss_one (ps_ret (pe_cal C__law_are_true hr (by decide) (by rfl) (pa_cons (pv 0) (pa_cons (pv 1) pa_nil))))))))), ?_⟩
    simp only [cxOf, Cx.nox, L2.start, tRet, tAndV, tOrV, tNotV, tCB, tCons, tNil, tVar, tC, tOp, tUn, tChain, tIfS, tTest, tSeq, tNext, tB, tOr, tAnd, tNot, tAsg, tDrop, tCall, rI0, rI, rU, List.cons_append, List.nil_append, List.append_nil, List.map_cons, List.map_nil, List.length_cons, List.length_nil, Nat.reduceAdd, Nat.reduceSub, List.replicate_succ, List.replicate_zero, List.getElem?_cons_zero, List.getElem?_cons_succ, Option.some.injEq, exists_eq_left, exists_eq_left', exists_eq_right, V.int.injEq, V.bl.injEq, V.str.injEq, V.ref.injEq, true_and, and_true, exists_and_left, if_true, if_false, gTup, gCons, gNil, gSub, gName, Mk.rSetD, List.set_cons_zero, List.set_cons_succ, Bool.false_eq_true, List.cons.injEq, Bool.not_true, Bool.not_false, eq_self, decide_true, decide_false, c3, N__law_fits_due]
    refine ⟨v, ds, rfl, hv, hg, fun H1 a ks g1 ha plv pts => ?_⟩
    obtain ⟨xs, hx, pr⟩ := id plv
    rcases alt with ⟨dn, kvs, rfl, hN, nd, hty, q⟩ | ⟨t, ty, kt, q⟩
    rotate_left
    · refine isA (b := false) (ty.gx g1) kt ?_
      simp only [cxOf, Cx.nox, L2.start, tRet, tAndV, tOrV, tNotV, tCB, tCons, tNil, tVar, tC, tOp, tUn, tChain, tIfS, tTest, tSeq, tNext, tB, tOr, tAnd, tNot, tAsg, tDrop, tCall, rI0, rI, rU, List.cons_append, List.nil_append, List.append_nil, List.map_cons, List.map_nil, List.length_cons, List.length_nil, Nat.reduceAdd, Nat.reduceSub, List.replicate_succ, List.replicate_zero, List.getElem?_cons_zero, List.getElem?_cons_succ, Option.some.injEq, exists_eq_left, exists_eq_left', exists_eq_right, V.int.injEq, V.bl.injEq, V.str.injEq, V.ref.injEq, true_and, and_true, exists_and_left, if_true, if_false, gTup, gCons, gNil, gSub, gName, Mk.rSetD, List.set_cons_zero, List.set_cons_succ, Bool.false_eq_true, List.cons.injEq, Bool.not_true, Bool.not_false, eq_self, decide_true, decide_false, c3]
      exact q _ g1
    have dR : ∀ {H'}, Gx H1 H' → DicR P w K H' dn kvs := fun g => (g1.trans g).dicR hN
    have lks : ks.length ≤ 121 := by
      refine Nat.le_trans (nodup_len pts.1 (fun k hk => (pts.2 k).mp hk)) ?_
      have := hg.1
      rw [allPts_len]; omega
    refine isA (b := true) (.dic (dR .refl)) rfl ?_
    simp only [cxOf, Cx.nox, L2.start, tRet, tAndV, tOrV, tNotV, tCB, tCons, tNil, tVar, tC, tOp, tUn, tChain, tIfS, tTest, tSeq, tNext, tB, tOr, tAnd, tNot, tAsg, tDrop, tCall, rI0, rI, rU, List.cons_append, List.nil_append, List.append_nil, List.map_cons, List.map_nil, List.length_cons, List.length_nil, Nat.reduceAdd, Nat.reduceSub, List.replicate_succ, List.replicate_zero, List.getElem?_cons_zero, List.getElem?_cons_succ, Option.some.injEq, exists_eq_left, exists_eq_left', exists_eq_right, V.int.injEq, V.bl.injEq, V.str.injEq, V.ref.injEq, true_and, and_true, exists_and_left, if_true, if_false, gTup, gCons, gNil, gSub, gName, Mk.rSetD, List.set_cons_zero, List.set_cons_succ, Bool.false_eq_true, List.cons.injEq, Bool.not_true, Bool.not_false, eq_self, decide_true, decide_false, c3]
    refine ⟨dn, _, rfl, dR .refl, xs, .inl (.inl (.inl hx)), rfl, ?_⟩
    by_cases cl : kvs.length = xs.length
    rotate_left
    · refine ⟨true, ?_, ?_⟩
      · simp; omega
      simp only [cxOf, Cx.nox, L2.start, tRet, tAndV, tOrV, tNotV, tCB, tCons, tNil, tVar, tC, tOp, tUn, tChain, tIfS, tTest, tSeq, tNext, tB, tOr, tAnd, tNot, tAsg, tDrop, tCall, rI0, rI, rU, List.cons_append, List.nil_append, List.append_nil, List.map_cons, List.map_nil, List.length_cons, List.length_nil, Nat.reduceAdd, Nat.reduceSub, List.replicate_succ, List.replicate_zero, List.getElem?_cons_zero, List.getElem?_cons_succ, Option.some.injEq, exists_eq_left, exists_eq_left', exists_eq_right, V.int.injEq, V.bl.injEq, V.str.injEq, V.ref.injEq, true_and, and_true, exists_and_left, if_true, if_false, gTup, gCons, gNil, gSub, gName, Mk.rSetD, List.set_cons_zero, List.set_cons_succ, Bool.false_eq_true, List.cons.injEq, Bool.not_true, Bool.not_false, eq_self, decide_true, decide_false, c3]
      exact q false _ g1 ⟨fun z => (by cases z), fun z => absurd ((len_same nd pts.1 fun k => by rw [z.1, pts.2]).trans (Paired.length pr)) cl⟩
    refine ⟨false, by simp [cl], ?_⟩
    simp only [cxOf, Cx.nox, L2.start, tRet, tAndV, tOrV, tNotV, tCB, tCons, tNil, tVar, tC, tOp, tUn, tChain, tIfS, tTest, tSeq, tNext, tB, tOr, tAnd, tNot, tAsg, tDrop, tCall, rI0, rI, rU, List.cons_append, List.nil_append, List.append_nil, List.map_cons, List.map_nil, List.length_cons, List.length_nil, Nat.reduceAdd, Nat.reduceSub, List.replicate_succ, List.replicate_zero, List.getElem?_cons_zero, List.getElem?_cons_succ, Option.some.injEq, exists_eq_left, exists_eq_left', exists_eq_right, V.int.injEq, V.bl.injEq, V.str.injEq, V.ref.injEq, true_and, and_true, exists_and_left, if_true, if_false, gTup, gCons, gNil, gSub, gName, Mk.rSetD, List.set_cons_zero, List.set_cons_succ, Bool.false_eq_true, List.cons.injEq, Bool.not_true, Bool.not_false, eq_self, decide_true, decide_false, c3]
    refine filt_lstG (i := 2) (j := 3) (p := fun k => !(valV kvs k).isSome) rfl (Nat.le_of_ble_eq_true rfl) plv (by omega) (fun k hk x H' R g kx r => ⟨x, rfl, _, rfl, dn, _, k, rfl, dR g, kx, _, rfl, r⟩) fun H2 r2 g2 hr2 plv2 => ?_
    obtain ⟨ys2, hy2, pr2⟩ := plv2
    refine ⟨Nat.zero_le _, fun n1 hn1 => ⟨r2, n1, ys2, rfl, rfl, (Gx.new hn1).seqL (.inl (.inl hy2)), .inl (.inl upd_same), ?_⟩⟩
    have g3 := Gx.new (o := .lst []) hn1
    generalize upd H2 n1 (.lst []) = H3 at *
    have g13 := g2.trans g3
    by_cases ci : (ks.all fun k => (valV kvs k).isSome) = true
    rotate_left
    · have : ys2.isEmpty = false := by
        rw [Bool.eq_false_iff]
        intro z
        rw [isEmpty_iff'] at z
        have e := Paired.length pr2
        rw [z] at e
        exact ci (List.all_eq_true.mpr fun k hk => by
          have := List.filter_eq_nil_iff.mp (List.length_eq_zero_iff.mp e) k hk
          cases hh : (valV kvs k).isSome
          · rw [hh] at this; exact absurd rfl this
          · rfl)
      rw [this]
      refine ⟨true, rfl, ?_⟩
      simp only [cxOf, Cx.nox, L2.start, tRet, tAndV, tOrV, tNotV, tCB, tCons, tNil, tVar, tC, tOp, tUn, tChain, tIfS, tTest, tSeq, tNext, tB, tOr, tAnd, tNot, tAsg, tDrop, tCall, rI0, rI, rU, List.cons_append, List.nil_append, List.append_nil, List.map_cons, List.map_nil, List.length_cons, List.length_nil, Nat.reduceAdd, Nat.reduceSub, List.replicate_succ, List.replicate_zero, List.getElem?_cons_zero, List.getElem?_cons_succ, Option.some.injEq, exists_eq_left, exists_eq_left', exists_eq_right, V.int.injEq, V.bl.injEq, V.str.injEq, V.ref.injEq, true_and, and_true, exists_and_left, if_true, if_false, gTup, gCons, gNil, gSub, gName, Mk.rSetD, List.set_cons_zero, List.set_cons_succ, Bool.false_eq_true, List.cons.injEq, Bool.not_true, Bool.not_false, eq_self, decide_true, decide_false, c3]
      exact q false _ (g1.trans g13) ⟨fun z => (by cases z), fun z => absurd (List.all_eq_true.mpr fun k hk => valV_mem.mpr ((z.1 k).mpr ((pts.2 k).mp hk))) ci⟩
    have inK : ∀ k ∈ ks, k ∈ kvs.map (·.1) := fun k hk => valV_mem.mp (List.all_eq_true.mp ci k hk)
    have key : ∀ k, k ∈ kvs.map (·.1) ↔ k ∈ allPts ds := fun k => ⟨fun h => (pts.2 k).mp (set_same pts.1 (cl.trans (Paired.length pr).symm) inK k h), fun h => inK k ((pts.2 k).mpr h)⟩
    have em : ys2.isEmpty = true := by
      have e := Paired.length pr2
      rw [List.filter_eq_nil_iff.mpr fun k hk => by have := List.all_eq_true.mp ci k hk; simp [this]] at e
      exact isEmpty_iff'.mpr (List.length_eq_zero_iff.mp e.symm)
    rw [em]
    refine ⟨false, rfl, ?_⟩
    simp only [cxOf, Cx.nox, L2.start, tRet, tAndV, tOrV, tNotV, tCB, tCons, tNil, tVar, tC, tOp, tUn, tChain, tIfS, tTest, tSeq, tNext, tB, tOr, tAnd, tNot, tAsg, tDrop, tCall, rI0, rI, rU, List.cons_append, List.nil_append, List.append_nil, List.map_cons, List.map_nil, List.length_cons, List.length_nil, Nat.reduceAdd, Nat.reduceSub, List.replicate_succ, List.replicate_zero, List.getElem?_cons_zero, List.getElem?_cons_succ, Option.some.injEq, exists_eq_left, exists_eq_left', exists_eq_right, V.int.injEq, V.bl.injEq, V.str.injEq, V.ref.injEq, true_and, and_true, exists_and_left, if_true, if_false, gTup, gCons, gNil, gSub, gName, Mk.rSetD, List.set_cons_zero, List.set_cons_succ, Bool.false_eq_true, List.cons.injEq, Bool.not_true, Bool.not_false, eq_self, decide_true, decide_false, c3]
    have get : ∀ {k y H'} {R : VK}, Gx H1 H' → k ∈ ks → KyV K H' k y → (∀ z, valV kvs k = some z → R z H') → Mk.rIxD P w K (.ref dn) y H' R := fun g hkk kx r => by
      obtain ⟨z, hz⟩ := Option.isSome_iff_exists.mp (valV_mem.mpr (inK _ hkk))
      exact ⟨dn, _, _, z, rfl, dR g, kx, hz, r z hz⟩
    refine filt_lstG (i := 2) (j := 3) (p := fun k => !isIntB ((valV kvs k).getD .non)) rfl (Nat.le_of_ble_eq_true rfl) (plv.gx g13) (by omega) (fun k hk x H' R g kx r => ⟨_, rfl, x, rfl, get (g13.trans g) hk kx fun z hz => ?_⟩) fun H4 r4 g4 hr4 plv4 => ?_
    · obtain ⟨kv, hkv, ez⟩ := valV_in hz
      obtain ⟨t, ht⟩ := hty kv hkv
      rw [ez] at ht
      refine ⟨z, t, rfl, ht.gx (g1.trans (g13.trans g)), _, rfl, ?_⟩
      rw [hz] at r
      exact r
    obtain ⟨ys4, hy4, pr4⟩ := plv4
    refine ⟨Nat.zero_le _, fun n5 hn5 => ⟨r4, n5, ys4, rfl, rfl, (Gx.new hn5).seqL (.inl (.inl hy4)), .inl (.inl upd_same), ?_⟩⟩
    have g5 := Gx.new (o := .lst []) hn5
    generalize upd H4 n5 (.lst []) = H5 at *
    have g15 := g13.trans (g4.trans g5)
    by_cases cj : (ks.all fun k => isIntB ((valV kvs k).getD .non)) = true
    rotate_left
    · have : ys4.isEmpty = false := by
        rw [Bool.eq_false_iff]
        intro z
        rw [isEmpty_iff'] at z
        have e := Paired.length pr4
        rw [z] at e
        exact cj (List.all_eq_true.mpr fun k hk => by
          have := List.filter_eq_nil_iff.mp (List.length_eq_zero_iff.mp e) k hk
          simpa using this)
      rw [this]
      refine ⟨true, rfl, ?_⟩
      simp only [cxOf, Cx.nox, L2.start, tRet, tAndV, tOrV, tNotV, tCB, tCons, tNil, tVar, tC, tOp, tUn, tChain, tIfS, tTest, tSeq, tNext, tB, tOr, tAnd, tNot, tAsg, tDrop, tCall, rI0, rI, rU, List.cons_append, List.nil_append, List.append_nil, List.map_cons, List.map_nil, List.length_cons, List.length_nil, Nat.reduceAdd, Nat.reduceSub, List.replicate_succ, List.replicate_zero, List.getElem?_cons_zero, List.getElem?_cons_succ, Option.some.injEq, exists_eq_left, exists_eq_left', exists_eq_right, V.int.injEq, V.bl.injEq, V.str.injEq, V.ref.injEq, true_and, and_true, exists_and_left, if_true, if_false, gTup, gCons, gNil, gSub, gName, Mk.rSetD, List.set_cons_zero, List.set_cons_succ, Bool.false_eq_true, List.cons.injEq, Bool.not_true, Bool.not_false, eq_self, decide_true, decide_false, c3]
      refine q false _ (g1.trans g15) ⟨fun z => (by cases z), fun z => absurd (List.all_eq_true.mpr fun k hk => ?_) cj⟩
      obtain ⟨y, hy⟩ := Option.isSome_iff_exists.mp (valV_mem.mpr (inK _ hk))
      rw [hy]
      exact z.2.1 k ((pts.2 k).mp hk) y hy
    have em4 : ys4.isEmpty = true := by
      have e := Paired.length pr4
      rw [List.filter_eq_nil_iff.mpr fun k hk => by have := List.all_eq_true.mp cj k hk; simp [this]] at e
      exact isEmpty_iff'.mpr (List.length_eq_zero_iff.mp e.symm)
    rw [em4]
    refine ⟨false, rfl, ?_⟩
    simp only [cxOf, Cx.nox, L2.start, tRet, tAndV, tOrV, tNotV, tCB, tCons, tNil, tVar, tC, tOp, tUn, tChain, tIfS, tTest, tSeq, tNext, tB, tOr, tAnd, tNot, tAsg, tDrop, tCall, rI0, rI, rU, List.cons_append, List.nil_append, List.append_nil, List.map_cons, List.map_nil, List.length_cons, List.length_nil, Nat.reduceAdd, Nat.reduceSub, List.replicate_succ, List.replicate_zero, List.getElem?_cons_zero, List.getElem?_cons_succ, Option.some.injEq, exists_eq_left, exists_eq_left', exists_eq_right, V.int.injEq, V.bl.injEq, V.str.injEq, V.ref.injEq, true_and, and_true, exists_and_left, if_true, if_false, gTup, gCons, gNil, gSub, gName, Mk.rSetD, List.set_cons_zero, List.set_cons_succ, Bool.false_eq_true, List.cons.injEq, Bool.not_true, Bool.not_false, eq_self, decide_true, decide_false, c3]
    have allI : ∀ k ∈ ks, ∃ i, valV kvs k = some (.int i) := fun k hk => by
      obtain ⟨y, hy⟩ := Option.isSome_iff_exists.mp (valV_mem.mpr (inK _ hk))
      have := List.all_eq_true.mp cj k hk
      rw [hy] at this
      cases y with
      | int i => exact ⟨i, hy⟩
      | _ => cases this
    have ib : ∀ k ∈ allPts ds, ∀ x, valV kvs k = some x → isIntB x = true := fun k hk x hy => by
      have := List.all_eq_true.mp cj k ((pts.2 k).mpr hk)
      rw [hy] at this
      exact this
    have z0 : zeroP ∈ ks := (pts.2 _).mpr List.mem_cons_self
    obtain ⟨c, hc⟩ := allI _ z0
    refine get (k := zeroP) g15 z0 rfl fun z hz => ?_
    rw [hc] at hz
    cases hz
    refine ⟨rfl, ?_⟩
    by_cases c0 : c = 0
    rotate_left
    · refine ⟨true, by simp [c0], ?_⟩
      simp only [cxOf, Cx.nox, L2.start, tRet, tAndV, tOrV, tNotV, tCB, tCons, tNil, tVar, tC, tOp, tUn, tChain, tIfS, tTest, tSeq, tNext, tB, tOr, tAnd, tNot, tAsg, tDrop, tCall, rI0, rI, rU, List.cons_append, List.nil_append, List.append_nil, List.map_cons, List.map_nil, List.length_cons, List.length_nil, Nat.reduceAdd, Nat.reduceSub, List.replicate_succ, List.replicate_zero, List.getElem?_cons_zero, List.getElem?_cons_succ, Option.some.injEq, exists_eq_left, exists_eq_left', exists_eq_right, V.int.injEq, V.bl.injEq, V.str.injEq, V.ref.injEq, true_and, and_true, exists_and_left, if_true, if_false, gTup, gCons, gNil, gSub, gName, Mk.rSetD, List.set_cons_zero, List.set_cons_succ, Bool.false_eq_true, List.cons.injEq, Bool.not_true, Bool.not_false, eq_self, decide_true, decide_false, c3]
      exact q false _ (g1.trans g15) ⟨fun z => (by cases z), fun z => by have := z.2.2.1; rw [hc] at this; cases this; exact absurd rfl c0⟩
    refine ⟨false, by simp [c0], ?_⟩
    subst c0
    simp only [cxOf, Cx.nox, L2.start, tRet, tAndV, tOrV, tNotV, tCB, tCons, tNil, tVar, tC, tOp, tUn, tChain, tIfS, tTest, tSeq, tNext, tB, tOr, tAnd, tNot, tAsg, tDrop, tCall, rI0, rI, rU, List.cons_append, List.nil_append, List.append_nil, List.map_cons, List.map_nil, List.length_cons, List.length_nil, Nat.reduceAdd, Nat.reduceSub, List.replicate_succ, List.replicate_zero, List.getElem?_cons_zero, List.getElem?_cons_succ, Option.some.injEq, exists_eq_left, exists_eq_left', exists_eq_right, V.int.injEq, V.bl.injEq, V.str.injEq, V.ref.injEq, true_and, and_true, exists_and_left, if_true, if_false, gTup, gCons, gNil, gSub, gName, Mk.rSetD, List.set_cons_zero, List.set_cons_succ, Bool.false_eq_true, List.cons.injEq, Bool.not_true, Bool.not_false, eq_self, decide_true, decide_false, c3]
    have ivk : ∀ k ∈ ks, valV kvs k = some (.int (ivM kvs k)) := fun k hk => by
      obtain ⟨i, hi⟩ := allI k hk
      rw [ivM, hi]
    refine ⟨v, dn, ds, kvs, rfl, hv.keep (g1.trans g15).tk, hg.1, dR g15, fun k hk => allI k ((pts.2 k).mpr hk), fun H6 g6 => ?_⟩
    refine q _ _ (g1.trans (g15.trans g6)) ⟨fun z => ⟨key, ib, hc, fun d hd i j hi hj => ?_⟩, fun z => List.all_eq_true.mpr fun d hd => decide_eq_true (z.2.2.2 d hd _ _ (ivk _ (pts_l pts hd)) (ivk _ (pts_r pts hd)))⟩
    have := of_decide_eq_true (List.all_eq_true.mp z d hd)
    rw [ivk _ (pts_l pts hd)] at hi
    rw [ivk _ (pts_r pts hd)] at hj
    cases hi
    cases hj
    exact this
end
end Mk


set_option Elab.async false
set_option linter.all false
set_option maxRecDepth 100000
set_option maxHeartbeats 400000
/-! is_ring_of of any value -/
namespace Mk
open PySem PySem.Spec PyProof.Rows L2
/-- an index of a row -/
def idxB (n : Nat) : V → Bool
  | .int i => isIntB (.int i) && (decide (0 ≤ i) && decide (i < n))
  | _ => false
def rowM (ds : List Dif) : V → Dif
  | .int i => ds[i.toNat]?.getD (zeroP, zeroP, 0)
  | _ => (zeroP, zeroP, 0)
def chainB (rows : List Dif) : Bool := (List.range rows.length).all fun j => decide ((rows[j]?.getD (zeroP, zeroP, 0)).2.1 = (rows[(j + 1) % rows.length]?.getD (zeroP, zeroP, 0)).1)
def ringB (ds : List Dif) (xs : List V) : Bool := !xs.isEmpty && (xs.all (idxB ds.length) && (chainB (xs.map (rowM ds)) && decide (((xs.map (rowM ds)).map (·.2.2)).sum < 0)))
section
variable {P : Program} {w : World} {K : PySem.W.Frag} {mg : Str → Option Value} {base : Heap}
def spIsrG (P : Program) (w : World) (K : PySem.W.Frag) : Sp := fun vs H Q _ => ∃ v x ds, vs = [v, x] ∧ DsV K H ds v ∧ GoodDs ds ∧
  ((∃ a xs, x = .ref a ∧ SqT K H a xs ∧ xs.length ≤ 100000 ∧ (∀ y ∈ xs, ∃ t, TyA P w K H y t) ∧ ∀ H', Gx H H' → Q (.bl (ringB ds xs)) H') ∨
   ∃ t, TyA P w K H x t ∧ kitB t "tuple" = some false ∧ ∀ H', Gx H H' → Q (.bl false) H')
theorem any_is_ring_of (T : Tops mg) (D : Def K mg "is_ring_of" s_is_ring_of ["differences", "value"]) (C_is_integer : Cal P w K mg base "is_integer" 1 ["value"] (spIsIntG P w K)) : Cal P w K mg base "is_ring_of" 2 ["differences", "value"] (spIsrG P w K) := by
  refine Cal.of D sc_is_ring_of (fun vs H Q E h => ?_) (fun f cdv A outer s H vs Q E hr h => ?_)
  · obtain ⟨v, x, ds, rfl, _⟩ := h; rfl
  · obtain ⟨v, vx, ds, rfl, hv, hg, alt⟩ := h
    have hu := hu_of hr
    have h0 := hr.units0
    have h64 := hr.units
    refine ⟨_, (pss_cons (ps_if (PW.pt (pw_or (pt_not (pt_val (pe_callB (call_isA' (P := P) (w := w) (K := K) rfl rfl rfl) (by rfl) T.b_isinstance (by decide +kernel) (pa_cons (pv 1) (pa_cons (pe_bltn (v := .ty "tuple") (u := .type "tuple") (by rfl) T.b_tuple (by decide +kernel) rfl) pa_nil))))) (pw_or1 (pt_cmpR op_eq (pe_callB call_len_seq (by rfl) T.b_len (by decide +kernel) (pa_cons (pv 1) pa_nil)) pe_int (nomark _))))) (pss_one (ps_ret pe_bl)) pss_nil)
      (pss_cons (ps_if (pt_not (pt_val (pe_callB (cr_all rfl) (by rfl) T.b_all (by decide +kernel) (pa_cons (pe_lc (own := [("index", 2)]) rfl sc_is_ring_of.nd (pi_tup (pv 1)) (blkOk_by (own := [("index", 2)]) (N := N_is_ring_of) (sc := defScope s_is_ring_of) (by decide +kernel)) (fun _ _ _ _ _ => (pg_name (i := 2) sc_is_ring_of.nd rfl (Or.inl rfl))) (fun _ _ _ _ _ => pts_nil) (fun _ _ _ _ _ => (pe_and (pe_cal C_is_integer hr (by decide) (by rfl) (pa_cons (pv 2) pa_nil)) (pe_one (pe_chain op_le op_lt pe_int (pv 2) (pe_callB (call_len_seqB (K := K) rfl) (by rfl) T.b_len (by decide +kernel) (pa_cons (pv 0) pa_nil))))))) pa_nil)))) (pss_one (ps_ret pe_bl)) pss_nil)
      (pss_cons (ps_set (i := 3) sc_is_ring_of.nd rfl (Or.inr rfl) (pe_lc (own := [("index", 2)]) rfl sc_is_ring_of.nd (pi_tup (pv 1)) (blkOk_by (own := [("index", 2)]) (N := N_is_ring_of) (sc := defScope s_is_ring_of) (by decide +kernel)) (fun _ _ _ _ _ => (pg_name (i := 2) sc_is_ring_of.nd rfl (Or.inl rfl))) (fun _ _ _ _ _ => pts_nil) (fun _ _ _ _ _ => (pe_ix (ix_tup' (K := K) rfl) (pv 0) (pv 2) (fun _ _ => rfl)))))
      (pss_cons (ps_if (pt_not (pt_val (pe_callB (cr_all rfl) (by rfl) T.b_all (by decide +kernel) (pa_cons (pe_lc (own := [("at", 4), ("row", 5)]) rfl sc_is_ring_of.nd (pi_enum (by rfl) T.b_enumerate (pa_cons (pv 3) pa_nil)) (blkOk_by (own := [("at", 4), ("row", 5)]) (N := N_is_ring_of) (sc := defScope s_is_ring_of) (by decide +kernel)) (fun _ _ _ _ _ => (pg_tupB (K := K) (n := 2) rfl rfl (pgs_cons (pg_name (i := 4) sc_is_ring_of.nd rfl (Or.inl rfl) (Or.inr rfl)) (pgs_cons (pg_name (i := 5) sc_is_ring_of.nd rfl (Or.inl rfl) (Or.inr rfl)) pgs_nil)))) (fun _ _ _ _ _ => pts_nil) (fun _ _ _ _ _ => (pe_cmpR (op_eqDB h64 (K := K) rfl) (pe_ix (ix_tup' (K := K) rfl) (pv 5) pe_int (fun _ _ => rfl)) (pe_ix (ix_tup' (K := K) rfl) (pe_ix (ix_listB (K := K) rfl) (pv 3) (pe_op op_mod (pe_op op_add (pv 4) pe_int) (pe_callB (call_len_seqB (K := K) rfl) (by rfl) T.b_len (by decide +kernel) (pa_cons (pv 3) pa_nil))) (fun _ _ => rfl)) pe_int (fun _ _ => rfl)) (nomark _)))) pa_nil)))) (pss_one (ps_ret pe_bl)) pss_nil)
      (pss_one (ps_ret (pe_cmpR op_lt (pe_callB (cr_sum rfl) (by rfl) T.b_sum (by decide +kernel) (pa_cons (pe_lc (own := [("one", 6), ("other", 7), ("number", 8)]) rfl sc_is_ring_of.nd (pi_list (pv 3)) (blkOk_by (own := [("one", 6), ("other", 7), ("number", 8)]) (N := N_is_ring_of) (sc := defScope s_is_ring_of) (by decide +kernel)) (fun _ _ _ _ _ => (pg_tupB (K := K) (n := 3) rfl rfl (pgs_cons (pg_name (i := 6) sc_is_ring_of.nd rfl (Or.inl rfl) (Or.inr rfl)) (pgs_cons (pg_name (i := 7) sc_is_ring_of.nd rfl (Or.inl rfl) (Or.inr rfl)) (pgs_cons (pg_name (i := 8) sc_is_ring_of.nd rfl (Or.inl rfl) (Or.inr rfl)) pgs_nil))))) (fun _ _ _ _ _ => pts_nil) (fun _ _ _ _ _ => (pv 8))) pa_nil)) pe_int (nomark _)))))))), ?_⟩
    simp only [cxOf, Cx.nox, L2.start, tRet, tAndV, tOrV, tNotV, tCB, tCons, tNil, tVar, tC, tOp, tUn, tChain, tIfS, tTest, tSeq, tNext, tB, tOr, tAnd, tNot, tAsg, tDrop, tCall, rI0, rI, rU, List.cons_append, List.nil_append, List.append_nil, List.map_cons, List.map_nil, List.length_cons, List.length_nil, Nat.reduceAdd, Nat.reduceSub, List.replicate_succ, List.replicate_zero, List.getElem?_cons_zero, List.getElem?_cons_succ, Option.some.injEq, exists_eq_left, exists_eq_left', exists_eq_right, V.int.injEq, V.bl.injEq, V.str.injEq, V.ref.injEq, true_and, and_true, exists_and_left, if_true, if_false, gTup, gCons, gNil, gSub, gName, Mk.rSetD, List.set_cons_zero, List.set_cons_succ, Bool.false_eq_true, List.cons.injEq, Bool.not_true, Bool.not_false, eq_self, decide_true, decide_false, c3, N_is_ring_of]
    rcases alt with ⟨a, xs, rfl, hS, lx, hty, q⟩ | ⟨t, ty, kt, q⟩
    rotate_left
    · refine isA (b := false) ty kt ?_
      simp only [cxOf, Cx.nox, L2.start, tRet, tAndV, tOrV, tNotV, tCB, tCons, tNil, tVar, tC, tOp, tUn, tChain, tIfS, tTest, tSeq, tNext, tB, tOr, tAnd, tNot, tAsg, tDrop, tCall, rI0, rI, rU, List.cons_append, List.nil_append, List.append_nil, List.map_cons, List.map_nil, List.length_cons, List.length_nil, Nat.reduceAdd, Nat.reduceSub, List.replicate_succ, List.replicate_zero, List.getElem?_cons_zero, List.getElem?_cons_succ, Option.some.injEq, exists_eq_left, exists_eq_left', exists_eq_right, V.int.injEq, V.bl.injEq, V.str.injEq, V.ref.injEq, true_and, and_true, exists_and_left, if_true, if_false, gTup, gCons, gNil, gSub, gName, Mk.rSetD, List.set_cons_zero, List.set_cons_succ, Bool.false_eq_true, List.cons.injEq, Bool.not_true, Bool.not_false, eq_self, decide_true, decide_false, c3]
      exact q _ .refl
    refine isA (b := true) (.tup hS) rfl ?_
    simp only [cxOf, Cx.nox, L2.start, tRet, tAndV, tOrV, tNotV, tCB, tCons, tNil, tVar, tC, tOp, tUn, tChain, tIfS, tTest, tSeq, tNext, tB, tOr, tAnd, tNot, tAsg, tDrop, tCall, rI0, rI, rU, List.cons_append, List.nil_append, List.append_nil, List.map_cons, List.map_nil, List.length_cons, List.length_nil, Nat.reduceAdd, Nat.reduceSub, List.replicate_succ, List.replicate_zero, List.getElem?_cons_zero, List.getElem?_cons_succ, Option.some.injEq, exists_eq_left, exists_eq_left', exists_eq_right, V.int.injEq, V.bl.injEq, V.str.injEq, V.ref.injEq, true_and, and_true, exists_and_left, if_true, if_false, gTup, gCons, gNil, gSub, gName, Mk.rSetD, List.set_cons_zero, List.set_cons_succ, Bool.false_eq_true, List.cons.injEq, Bool.not_true, Bool.not_false, eq_self, decide_true, decide_false, c3]
    obtain ⟨da, dv, rfl, hD, prd⟩ := id hv
    have ld : dv.length = ds.length := (Paired.length prd).symm
    refine ⟨xs, .inr hS, rfl, ?_⟩
    by_cases ce : xs = []
    · subst ce
      refine ⟨true, by simp, ?_⟩
      simp only [cxOf, Cx.nox, L2.start, tRet, tAndV, tOrV, tNotV, tCB, tCons, tNil, tVar, tC, tOp, tUn, tChain, tIfS, tTest, tSeq, tNext, tB, tOr, tAnd, tNot, tAsg, tDrop, tCall, rI0, rI, rU, List.cons_append, List.nil_append, List.append_nil, List.map_cons, List.map_nil, List.length_cons, List.length_nil, Nat.reduceAdd, Nat.reduceSub, List.replicate_succ, List.replicate_zero, List.getElem?_cons_zero, List.getElem?_cons_succ, Option.some.injEq, exists_eq_left, exists_eq_left', exists_eq_right, V.int.injEq, V.bl.injEq, V.str.injEq, V.ref.injEq, true_and, and_true, exists_and_left, if_true, if_false, gTup, gCons, gNil, gSub, gName, Mk.rSetD, List.set_cons_zero, List.set_cons_succ, Bool.false_eq_true, List.cons.injEq, Bool.not_true, Bool.not_false, eq_self, decide_true, decide_false, c3]
      have := q _ .refl
      rw [ringB] at this
      exact this
    refine ⟨false, ?_, ?_⟩
    · have : xs.length ≠ 0 := fun z => ce (List.length_eq_zero_iff.mp z)
      simp [ce]
    have ne : (!xs.isEmpty) = true := by cases xs with
      | nil => exact absurd rfl ce
      | cons _ _ => rfl
    simp only [cxOf, Cx.nox, L2.start, tRet, tAndV, tOrV, tNotV, tCB, tCons, tNil, tVar, tC, tOp, tUn, tChain, tIfS, tTest, tSeq, tNext, tB, tOr, tAnd, tNot, tAsg, tDrop, tCall, rI0, rI, rU, List.cons_append, List.nil_append, List.append_nil, List.map_cons, List.map_nil, List.length_cons, List.length_nil, Nat.reduceAdd, Nat.reduceSub, List.replicate_succ, List.replicate_zero, List.getElem?_cons_zero, List.getElem?_cons_succ, Option.some.injEq, exists_eq_left, exists_eq_left', exists_eq_right, V.int.injEq, V.bl.injEq, V.str.injEq, V.ref.injEq, true_and, and_true, exists_and_left, if_true, if_false, gTup, gCons, gNil, gSub, gName, Mk.rSetD, List.set_cons_zero, List.set_cons_succ, Bool.false_eq_true, List.cons.injEq, Bool.not_true, Bool.not_false, eq_self, decide_true, decide_false, c3]
    refine (?_ : tLc _ _ _ _ _ _ _ _)
    refine ⟨_, rfl, a, rfl, ⟨_, hS⟩, fun D1 hD1 => lc_it (walk_tup (xs := xs)) (PvG H D1 (AMap xs fun x => V.bl (idxB ds.length x))) (PvG.ini hD1 .ini) (fun _ _ _ h => h.1.seqT hS) (fun i x H1 H2 hi hP hY => ?_) (fun H1 hP => ?_)⟩
    · obtain ⟨rfl, hxi⟩ := hY
      obtain ⟨g, ys, e, am⟩ := hP
      obtain ⟨t, ht⟩ := hty x (List.mem_of_getElem? hxi)
      have pt := am.put (H' := upd H2 D1 (.lst (ys ++ [.bl (idxB ds.length x)]))) hxi
      have put := PvG.put g hD1 e (line_lt (am.len lx)) pt
      refine ⟨rfl, _, rfl, x, t, rfl, ht.gx g, _, rfl, ?_⟩
      cases x with
      | int n =>
        by_cases c1 : isIntB (.int n) = true
        · rw [idxB, c1, Bool.true_and] at put
          rw [c1]
          refine ⟨_, rfl, 0, n, rfl, rfl, _, rfl, ?_⟩
          by_cases c2 : 0 ≤ n
          · rw [decide_eq_true c2, Bool.true_and] at put
            rw [decide_eq_true c2]
            refine ⟨_, rfl, da, rfl, dv, .inr (g.seqT hD), n, _, rfl, rfl, ?_⟩
            rw [ld]
            exact put
          · rw [decide_eq_false c2, Bool.false_and] at put
            rw [decide_eq_false c2]
            exact put
        · have c1' := Bool.eq_false_iff.mpr c1
          rw [idxB, c1', Bool.false_and] at put
          rw [c1']
          exact put
      | _ => exact put
    obtain ⟨g1, ys1, e1, am1⟩ := hP
    refine ⟨D1, xs.map (idxB ds.length), rfl, .inl (.inl (by rw [e1, AMap.fin am1, List.map_map]; rfl)), ?_⟩
    rw [all_bl]
    by_cases ci : xs.all (idxB ds.length) = true
    rotate_left
    · have ci' := Bool.eq_false_iff.mpr ci
      rw [ci']
      simp only [cxOf, Cx.nox, L2.start, tRet, tAndV, tOrV, tNotV, tCB, tCons, tNil, tVar, tC, tOp, tUn, tChain, tIfS, tTest, tSeq, tNext, tB, tOr, tAnd, tNot, tAsg, tDrop, tCall, rI0, rI, rU, List.cons_append, List.nil_append, List.append_nil, List.map_cons, List.map_nil, List.length_cons, List.length_nil, Nat.reduceAdd, Nat.reduceSub, List.replicate_succ, List.replicate_zero, List.getElem?_cons_zero, List.getElem?_cons_succ, Option.some.injEq, exists_eq_left, exists_eq_left', exists_eq_right, V.int.injEq, V.bl.injEq, V.str.injEq, V.ref.injEq, true_and, and_true, exists_and_left, if_true, if_false, gTup, gCons, gNil, gSub, gName, Mk.rSetD, List.set_cons_zero, List.set_cons_succ, Bool.false_eq_true, List.cons.injEq, Bool.not_true, Bool.not_false, eq_self, decide_true, decide_false, c3]
      have := q _ g1
      rw [ringB, ne, ci', Bool.true_and, Bool.false_and] at this
      exact this
    rw [ci]
    simp only [cxOf, Cx.nox, L2.start, tRet, tAndV, tOrV, tNotV, tCB, tCons, tNil, tVar, tC, tOp, tUn, tChain, tIfS, tTest, tSeq, tNext, tB, tOr, tAnd, tNot, tAsg, tDrop, tCall, rI0, rI, rU, List.cons_append, List.nil_append, List.append_nil, List.map_cons, List.map_nil, List.length_cons, List.length_nil, Nat.reduceAdd, Nat.reduceSub, List.replicate_succ, List.replicate_zero, List.getElem?_cons_zero, List.getElem?_cons_succ, Option.some.injEq, exists_eq_left, exists_eq_left', exists_eq_right, V.int.injEq, V.bl.injEq, V.str.injEq, V.ref.injEq, true_and, and_true, exists_and_left, if_true, if_false, gTup, gCons, gNil, gSub, gName, Mk.rSetD, List.set_cons_zero, List.set_cons_succ, Bool.false_eq_true, List.cons.injEq, Bool.not_true, Bool.not_false, eq_self, decide_true, decide_false, c3]
    have idx : ∀ x ∈ xs, ∃ n : Int, x = .int n ∧ 0 ≤ n ∧ n.toNat < ds.length := fun x hx => by
      have := List.all_eq_true.mp ci x hx
      cases x with
      | int n =>
        rw [idxB, Bool.and_eq_true, Bool.and_eq_true] at this
        have a := of_decide_eq_true this.2.1
        have b := of_decide_eq_true this.2.2
        exact ⟨n, rfl, a, by omega⟩
      | _ => cases this
    have hS1 : ∀ {H'}, Gx H1 H' → SqT K H' a xs := fun g => g.seqT (g1.seqT hS)
    refine ⟨_, rfl, a, rfl, ⟨_, hS1 .refl⟩, fun R hR => lc_it (walk_tup (xs := xs)) (PvG H1 R fun i ys H' => Paired (DifV K H') ((xs.take i).map (rowM ds)) ys) (PvG.ini hR (by rw [List.take_zero]; exact .nil)) (fun _ _ _ h => hS1 h.1) (fun i x H2 H3 hi hP hY => ?_) (fun H2 hP => ?_)⟩
    · obtain ⟨rfl, hxi⟩ := hY
      obtain ⟨g, ys, e, am⟩ := hP
      obtain ⟨n, rfl, n0, nl⟩ := idx x (List.mem_of_getElem? hxi)
      obtain ⟨y, hy, dy⟩ := pair_at' prd (List.getElem?_eq_getElem nl)
      have er : rowM ds (.int n) = ds[n.toNat] := by rw [rowM, List.getElem?_eq_getElem nl]; rfl
      refine ⟨rfl, _, rfl, _, rfl, da, dv, n, y, rfl, rfl, (g1.trans g).seqT hD, ?_, PvG.put g hR e (line_lt (m := 100000) ?_) ?_⟩
      · have := atI_nat hy
        rwa [Int.toNat_of_nonneg n0] at this
      · rw [← Paired.length am, List.length_map]; exact take_len lx
      · rw [take_s hxi, List.map_append, List.map_singleton, er]
        have tm : Tk K H3 (upd H3 R (.lst (ys ++ [y]))) := Tk.mut (by rw [e]; exact True.intro)
        exact pair_snoc (Paired.mapP am fun _ _ z => z.keep tm) ((dy.keep (g1.trans g).tk).keep tm)
    obtain ⟨g2, rs, e2, pr2⟩ := hP
    rw [List.take_length] at pr2
    have lrs : rs.length = xs.length := by rw [← Paired.length pr2, List.length_map]
    have gd : ∀ d ∈ xs.map (rowM ds), GoodD d := fun d hd => by
      obtain ⟨x, hx, rfl⟩ := List.mem_map.mp hd
      obtain ⟨n, rfl, n0, nl⟩ := idx x hx
      have er : rowM ds (.int n) = ds[n.toNat] := by rw [rowM, List.getElem?_eq_getElem nl]; rfl
      rw [er]
      exact hg.2 _ (List.getElem_mem nl)
    generalize hrw : xs.map (rowM ds) = rw' at *
    have lrw : rs.length = rw'.length := (Paired.length pr2).symm
    have rpos : 0 < rw'.length := by
      rw [← lrw, lrs]
      exact List.length_pos_iff.mpr ce
    have lr : rw'.length ≤ 100000 := by rw [← lrw, lrs]; exact lx
    have hR2 : ∀ {H'}, Gx H2 H' → SqL K H' R rs := fun g => .inl (.inl (g _ _ e2))
    refine (?_ : tLc _ _ _ _ _ _ _ _)
    refine ⟨_, rfl, R, rs, rfl, hR2 .refl, fun D3 hD3 => lc_it (walk_enum (xs := rs)) (PvG H2 D3 (AMap (List.range rw'.length) fun j => V.bl (decide ((rw'[j]?.getD (zeroP, zeroP, 0)).2.1 = (rw'[(j + 1) % rw'.length]?.getD (zeroP, zeroP, 0)).1)))) (PvG.ini hD3 .ini) (fun _ _ _ h => hR2 h.1) (fun i x H3 H4 hi hP hY => ?_) (fun H3 hP => ?_)⟩
    · obtain ⟨T', y1, y2, rfl, hT, rfl, q1, q2⟩ := hY
      obtain rfl : V.int i = y1 := Option.some.inj q1
      obtain ⟨g, ys, e, am⟩ := hP
      have gt := Gx.new (o := .tup [.int i, y2]) hT
      have et : (upd H3 T' (.tup [.int i, y2])) T' = some (.tup [.int i, y2]) := upd_same
      generalize upd H3 T' (.tup [.int i, y2]) = H5 at *
      have g5 := g.trans gt
      have il : i < rw'.length := by rw [← lrw]; exact hi
      obtain ⟨d, hd, dx⟩ := pair_at pr2 (show rs[i]? = some y2 from q2)
      have ml : (i + 1) % rw'.length < rw'.length := Nat.mod_lt _ rpos
      obtain ⟨y3, hy3, dx3⟩ := pair_at' pr2 (List.getElem?_eq_getElem ml)
      obtain ⟨p1, a1, b1, rfl, s1, ka1, kb1⟩ := dx.keep g5.tk
      obtain ⟨p3, a3, b3, rfl, s3, ka3, kb3⟩ := dx3.keep g5.tk
      have gdd := gd d (List.mem_of_getElem? hd)
      have gd3 := gd _ (List.getElem_mem ml)
      refine ⟨T', _, rfl, .inl (.inl et), rfl, _, _, rfl, _, _, rfl, rfl, rfl, ?_⟩
      refine ⟨_, rfl, p1, _, 1, _, rfl, rfl, s1, atI_nat (j := 1) rfl, _, rfl, _, rfl, _, _, rfl, rfl, _, rfl, R, rfl, rs, .inl (hR2 g5), (i : Int) + 1, rs.length, rfl, rfl, by omega, R, rs, _, _, rfl, rfl, hR2 g5, ?_, p3, _, 0, _, rfl, rfl, s3, atI_nat (j := 0) rfl,
        ptD d.2.1, ptD (rw'[(i + 1) % rw'.length]).1, kb1.dp, ka3.dp, shaped_pt gdd.2.1, shaped_pt gd3.1, ?_⟩
      · have := atI_nat hy3
        rw [lrw]
        exact this
      · rw [eqv_pt]
        have pt := am.put (H' := upd H5 D3 (.lst (ys ++ [.bl (decide ((rw'[i]?.getD (zeroP, zeroP, 0)).2.1 = (rw'[(i + 1) % rw'.length]?.getD (zeroP, zeroP, 0)).1))]))) (List.getElem?_range il)
        rw [hd, List.getElem?_eq_getElem ml] at pt
        exact PvG.put g5 hD3 (gt _ _ e) (line_lt (am.len (n := 100000) (by rw [List.length_range]; exact lr))) pt
    obtain ⟨g3, ys3, e3, am3⟩ := hP
    rw [show rs.length = (List.range rw'.length).length by rw [List.length_range, lrw]] at am3
    refine ⟨D3, (List.range rw'.length).map fun j => decide ((rw'[j]?.getD (zeroP, zeroP, 0)).2.1 = (rw'[(j + 1) % rw'.length]?.getD (zeroP, zeroP, 0)).1), rfl, .inl (.inl (by rw [e3, AMap.fin am3, List.map_map]; rfl)), ?_⟩
    rw [all_bl]
    by_cases cc : chainB rw' = true
    rotate_left
    · have cc' := Bool.eq_false_iff.mpr cc
      rw [show ((List.range rw'.length).all fun j => decide ((rw'[j]?.getD (zeroP, zeroP, 0)).2.1 = (rw'[(j + 1) % rw'.length]?.getD (zeroP, zeroP, 0)).1)) = false from cc']
      simp only [cxOf, Cx.nox, L2.start, tRet, tAndV, tOrV, tNotV, tCB, tCons, tNil, tVar, tC, tOp, tUn, tChain, tIfS, tTest, tSeq, tNext, tB, tOr, tAnd, tNot, tAsg, tDrop, tCall, rI0, rI, rU, List.cons_append, List.nil_append, List.append_nil, List.map_cons, List.map_nil, List.length_cons, List.length_nil, Nat.reduceAdd, Nat.reduceSub, List.replicate_succ, List.replicate_zero, List.getElem?_cons_zero, List.getElem?_cons_succ, Option.some.injEq, exists_eq_left, exists_eq_left', exists_eq_right, V.int.injEq, V.bl.injEq, V.str.injEq, V.ref.injEq, true_and, and_true, exists_and_left, if_true, if_false, gTup, gCons, gNil, gSub, gName, Mk.rSetD, List.set_cons_zero, List.set_cons_succ, Bool.false_eq_true, List.cons.injEq, Bool.not_true, Bool.not_false, eq_self, decide_true, decide_false, c3]
      have := q _ ((g1.trans g2).trans g3)
      rw [ringB, ne, ci, hrw, cc', Bool.true_and, Bool.true_and, Bool.false_and] at this
      exact this
    rw [show ((List.range rw'.length).all fun j => decide ((rw'[j]?.getD (zeroP, zeroP, 0)).2.1 = (rw'[(j + 1) % rw'.length]?.getD (zeroP, zeroP, 0)).1)) = true from cc]
    simp only [cxOf, Cx.nox, L2.start, tRet, tAndV, tOrV, tNotV, tCB, tCons, tNil, tVar, tC, tOp, tUn, tChain, tIfS, tTest, tSeq, tNext, tB, tOr, tAnd, tNot, tAsg, tDrop, tCall, rI0, rI, rU, List.cons_append, List.nil_append, List.append_nil, List.map_cons, List.map_nil, List.length_cons, List.length_nil, Nat.reduceAdd, Nat.reduceSub, List.replicate_succ, List.replicate_zero, List.getElem?_cons_zero, List.getElem?_cons_succ, Option.some.injEq, exists_eq_left, exists_eq_left', exists_eq_right, V.int.injEq, V.bl.injEq, V.str.injEq, V.ref.injEq, true_and, and_true, exists_and_left, if_true, if_false, gTup, gCons, gNil, gSub, gName, Mk.rSetD, List.set_cons_zero, List.set_cons_succ, Bool.false_eq_true, List.cons.injEq, Bool.not_true, Bool.not_false, eq_self, decide_true, decide_false, c3]
    refine (?_ : tLc _ _ _ _ _ _ _ _)
    refine ⟨_, rfl, R, rfl, ⟨_, hR2 g3⟩, fun D4 hD4 => lc_it (walk_list (xs := rs)) (PvG H3 D4 (AMap rw' fun d => V.int d.2.2)) (PvG.ini hD4 .ini) (fun _ _ _ h => hR2 (g3.trans h.1)) (fun i x H4 H5 hi hP hY => ?_) (fun H4 hP => ?_)⟩
    · obtain ⟨rfl, hxi⟩ := hY
      obtain ⟨g, ys, e, am⟩ := hP
      obtain ⟨d, hd, dx⟩ := pair_at pr2 hxi
      obtain ⟨p1, a1, b1, rfl, s1, ka1, kb1⟩ := dx.keep (g3.trans g).tk
      have pt := am.put (H' := upd H5 D4 (.lst (ys ++ [.int d.2.2]))) hd
      refine ⟨p1, _, rfl, s1, rfl, _, _, rfl, _, _, rfl, _, _, rfl, rfl, rfl, ?_⟩
      exact ⟨_, rfl, PvG.put g hD4 e (line_lt (am.len (n := 100000) lr)) pt⟩
    obtain ⟨g4, ys4, e4, am4⟩ := hP
    rw [lrw] at am4
    refine ⟨D4, rw'.map (·.2.2), rfl, .inl (.inl (by rw [e4, AMap.fin am4, List.map_map]; rfl)), ?_⟩
    have := q _ (((g1.trans g2).trans g3).trans g4)
    rw [ringB, ne, ci, hrw, cc, Bool.true_and, Bool.true_and, Bool.true_and] at this
    exact ⟨_, rfl, this⟩
end
end Mk


set_option Elab.async false
set_option linter.all false
set_option maxRecDepth 100000
set_option maxHeartbeats 400000
/-! is_ring and the law's own judge of rings -/
namespace Mk
open PySem PySem.Spec PyProof.Rows L2
section
variable {X : Cx}
/-- xs == () -/
def rEqT (K : PySem.W.Frag) : R2 := fun x y H Q => ∃ a b xs, x = .ref a ∧ y = .ref b ∧ SqT K H a xs ∧ SqT K H b [] ∧ Q (.bl xs.isEmpty) H
theorem op_eqT (hu : X.A.units < cLine) : OpR X (compareOp .Eq) (rEqT X.K) := by
  intro pins s σ H x y v u Q I rx ry ⟨a, b, xs, e1, e2, h1, h2, q⟩
  subst e1 e2
  obtain rfl : v = Value.ref a := rx
  obtain rfl : u = Value.ref b := ry
  obtain ⟨i1, r1, p1, _⟩ := I.tuple h1
  obtain ⟨i2, r2, p2, _⟩ := I.tuple h2
  cases r2
  have hh := SeqAt.RcAt.tuples (e := fun _ => true) p1 p2 hu (fun j _ h => absurd h (Nat.not_lt_zero _))
  cases r1 with
  | nil => exact hh _ _ _ _ ⟨V.bl true, H, I, rfl, q⟩
  | cons r t => exact hh _ _ _ _ (by simp; exact ⟨V.bl false, H, I, rfl, q⟩)
end
section
variable {P : Program} {w : World} {K : PySem.W.Frag} {mg : Str → Option Value} {base : Heap}
theorem any_is_ring (T : Tops mg) (D : Def K mg "is_ring" s_is_ring ["differences", "value"]) (C_require_differences : Cal P w K mg base "require_differences" 5 ["value"] (spReqD K)) (C_is_ring_of : Cal P w K mg base "is_ring_of" 2 ["differences", "value"] (spIsrG P w K)) : Cal P w K mg base "is_ring" 6 ["differences", "value"] (spIsrG P w K) := by
  refine Cal.of D sc_is_ring (fun vs H Q E h => ?_) (fun f cdv A outer s H vs Q E hr h => ?_)
  · obtain ⟨v, x, ds, rfl, _⟩ := h; rfl
  · obtain ⟨v, vx, ds, rfl, hv, hg, alt⟩ := h
    have hu := hu_of hr
    have h0 := hr.units0
    refine ⟨_, (pss_cons (ps_expr (pe_cal C_require_differences hr (by decide) (by rfl) (pa_cons (pv 0) pa_nil)))
      (pss_one (ps_ret (pe_cal C_is_ring_of hr (by decide) (by rfl) (pa_cons (pv 0) (pa_cons (pv 1) pa_nil)))))), ?_⟩
    simp only [cxOf, Cx.nox, L2.start, tRet, tAndV, tOrV, tNotV, tCB, tCons, tNil, tVar, tC, tOp, tUn, tChain, tIfS, tTest, tSeq, tNext, tB, tOr, tAnd, tNot, tAsg, tDrop, tCall, rI0, rI, rU, List.cons_append, List.nil_append, List.append_nil, List.map_cons, List.map_nil, List.length_cons, List.length_nil, Nat.reduceAdd, Nat.reduceSub, List.replicate_succ, List.replicate_zero, List.getElem?_cons_zero, List.getElem?_cons_succ, Option.some.injEq, exists_eq_left, exists_eq_left', exists_eq_right, V.int.injEq, V.bl.injEq, V.str.injEq, V.ref.injEq, true_and, and_true, exists_and_left, if_true, if_false, gTup, gCons, gNil, gSub, gName, Mk.rSetD, List.set_cons_zero, List.set_cons_succ, Bool.false_eq_true, List.cons.injEq, Bool.not_true, Bool.not_false, eq_self, decide_true, decide_false, c3, N_is_ring]
    refine ⟨v, ds, rfl, hv, hg, fun H1 g1 => ⟨v, vx, ds, rfl, hv.keep g1.tk, hg, ?_⟩⟩
    rcases alt with ⟨a, xs, rfl, hS, lx, hty, q⟩ | ⟨t, ty, kt, q⟩
    · exact .inl ⟨a, xs, rfl, g1.seqT hS, lx, fun y hy => (hty y hy).imp fun t h => h.gx g1, fun H' g => q H' (g1.trans g)⟩
    · exact .inr ⟨t, ty.gx g1, kt, fun H' g => q H' (g1.trans g)⟩
theorem any_ring_due (T : Tops mg) (D : Def K mg "_law_ring_due" s__law_ring_due ["differences", "value"]) (C__law_is_whole : Cal P w K mg base "_law_is_whole" 1 ["value"] (spIsIntG P w K)) : Cal P w K mg base "_law_ring_due" 2 ["differences", "value"] (spIsrG P w K) := by
  refine Cal.of D sc__law_ring_due (fun vs H Q E h => ?_) (fun f cdv A outer s H vs Q E hr h => ?_)
  · obtain ⟨v, x, ds, rfl, _⟩ := h; rfl
  · obtain ⟨v, vx, ds, rfl, hv, hg, alt⟩ := h
    have hu := hu_of hr
    have h0 := hr.units0
    have h64 := hr.units
    refine ⟨_, (pss_cons (ps_if (PW.pt (pw_or (pt_not (pt_val (pe_callB (call_isA' (P := P) (w := w) (K := K) rfl rfl rfl) (by rfl) T.b_isinstance (by decide +kernel) (pa_cons (pv 1) (pa_cons (pe_bltn (v := .ty "tuple") (u := .type "tuple") (by rfl) T.b_tuple (by decide +kernel) rfl) pa_nil))))) (pw_or1 (pt_cmpR (op_eqT h0) (pv 1) (pe_tup pa_nil) (nomark _))))) (pss_one (ps_ret pe_bl)) pss_nil)
      (pss_cons (ps_for PassesOwn.never rfl (pi_tup (pv 1)) (pg_name (i := 2) sc__law_ring_due.nd rfl (Or.inl rfl))
      (pss_one (ps_if (PW.pt (pw_or (pt_not (pt_val (pe_cal C__law_is_whole hr (by decide) (by rfl) (pa_cons (pv 2) pa_nil)))) (pw_or (pt_cmpR op_lt (pv 2) pe_int (nomark _)) (pw_or1 (pt_cmpR op_ge (pv 2) (pe_callB call_len_seq (by rfl) T.b_len (by decide +kernel) (pa_cons (pv 0) pa_nil)) (nomark _)))))) (pss_one (ps_ret pe_bl)) pss_nil)))
      (pss_cons (ps_set (i := 3) sc__law_ring_due.nd rfl (Or.inr rfl) (pe_lc (own := [("at", 4)]) rfl sc__law_ring_due.nd (pi_tup (pv 1)) (blkOk_by (own := [("at", 4)]) (N := N__law_ring_due) (sc := defScope s__law_ring_due) (by decide +kernel)) (fun _ _ _ _ _ => (pg_name (i := 4) sc__law_ring_due.nd rfl (Or.inl rfl))) (fun _ _ _ _ _ => pts_nil) (fun _ _ _ _ _ => (pe_ix (ix_tup' (K := K) rfl) (pv 0) (pv 4) (fun _ _ => rfl)))))
      (pss_cons (ps_if (pt_cmpR (op_neE h0) (pe_lc (own := [("at", 4)]) rfl sc__law_ring_due.nd (pi_range1 (by rfl) T.b_range (pa_cons (pe_callB call_len_seq (by rfl) T.b_len (by decide +kernel) (pa_cons (pv 3) pa_nil)) pa_nil)) (blkOk_by (own := [("at", 4)]) (N := N__law_ring_due) (sc := defScope s__law_ring_due) (by decide +kernel)) (fun _ _ _ _ _ => (pg_name (i := 4) sc__law_ring_due.nd rfl (Or.inl rfl))) (fun _ _ _ _ _ => (pts_one (pt_cmpR (op_neDB h64 (K := K) rfl) (pe_ix (ix_tup' (K := K) rfl) (pe_ix (ix_listB (K := K) rfl) (pv 3) (pv 4) (fun _ _ => rfl)) pe_int (fun _ _ => rfl)) (pe_ix (ix_tup' (K := K) rfl) (pe_ix (ix_listB (K := K) rfl) (pv 3) (pe_op op_mod (pe_op op_add (pv 4) pe_int) (pe_callB (call_len_seqB (K := K) rfl) (by rfl) T.b_len (by decide +kernel) (pa_cons (pv 3) pa_nil))) (fun _ _ => rfl)) pe_int (fun _ _ => rfl)) (nomark _)))) (fun _ _ _ _ _ => (pv 4))) (pe_lst pa_nil) (nomark _)) (pss_one (ps_ret pe_bl)) pss_nil)
      (pss_one (ps_ret (pe_cmpR op_lt (pe_callB (cr_sum rfl) (by rfl) T.b_sum (by decide +kernel) (pa_cons (pe_lc (own := [("row", 5)]) rfl sc__law_ring_due.nd (pi_list (pv 3)) (blkOk_by (own := [("row", 5)]) (N := N__law_ring_due) (sc := defScope s__law_ring_due) (by decide +kernel)) (fun _ _ _ _ _ => (pg_name (i := 5) sc__law_ring_due.nd rfl (Or.inl rfl))) (fun _ _ _ _ _ => pts_nil) (fun _ _ _ _ _ => (pe_ix (ix_tup' (K := K) rfl) (pv 5) pe_int (fun _ _ => rfl)))) pa_nil)) pe_int (nomark _)))))))), ?_⟩
    simp only [cxOf, Cx.nox, L2.start, tRet, tAndV, tOrV, tNotV, tCB, tCons, tNil, tVar, tC, tOp, tUn, tChain, tIfS, tTest, tSeq, tNext, tB, tOr, tAnd, tNot, tAsg, tDrop, tCall, rI0, rI, rU, List.cons_append, List.nil_append, List.append_nil, List.map_cons, List.map_nil, List.length_cons, List.length_nil, Nat.reduceAdd, Nat.reduceSub, List.replicate_succ, List.replicate_zero, List.getElem?_cons_zero, List.getElem?_cons_succ, Option.some.injEq, exists_eq_left, exists_eq_left', exists_eq_right, V.int.injEq, V.bl.injEq, V.str.injEq, V.ref.injEq, true_and, and_true, exists_and_left, if_true, if_false, gTup, gCons, gNil, gSub, gName, Mk.rSetD, List.set_cons_zero, List.set_cons_succ, Bool.false_eq_true, List.cons.injEq, Bool.not_true, Bool.not_false, eq_self, decide_true, decide_false, c3, N__law_ring_due]
    rcases alt with ⟨a, xs, rfl, hS, lx, hty, q⟩ | ⟨t, ty, kt, q⟩
    rotate_left
    · refine isA (b := false) ty kt ?_
      simp only [cxOf, Cx.nox, L2.start, tRet, tAndV, tOrV, tNotV, tCB, tCons, tNil, tVar, tC, tOp, tUn, tChain, tIfS, tTest, tSeq, tNext, tB, tOr, tAnd, tNot, tAsg, tDrop, tCall, rI0, rI, rU, List.cons_append, List.nil_append, List.append_nil, List.map_cons, List.map_nil, List.length_cons, List.length_nil, Nat.reduceAdd, Nat.reduceSub, List.replicate_succ, List.replicate_zero, List.getElem?_cons_zero, List.getElem?_cons_succ, Option.some.injEq, exists_eq_left, exists_eq_left', exists_eq_right, V.int.injEq, V.bl.injEq, V.str.injEq, V.ref.injEq, true_and, and_true, exists_and_left, if_true, if_false, gTup, gCons, gNil, gSub, gName, Mk.rSetD, List.set_cons_zero, List.set_cons_succ, Bool.false_eq_true, List.cons.injEq, Bool.not_true, Bool.not_false, eq_self, decide_true, decide_false, c3]
      exact q _ .refl
    refine isA (b := true) (.tup hS) rfl ?_
    simp only [cxOf, Cx.nox, L2.start, tRet, tAndV, tOrV, tNotV, tCB, tCons, tNil, tVar, tC, tOp, tUn, tChain, tIfS, tTest, tSeq, tNext, tB, tOr, tAnd, tNot, tAsg, tDrop, tCall, rI0, rI, rU, List.cons_append, List.nil_append, List.append_nil, List.map_cons, List.map_nil, List.length_cons, List.length_nil, Nat.reduceAdd, Nat.reduceSub, List.replicate_succ, List.replicate_zero, List.getElem?_cons_zero, List.getElem?_cons_succ, Option.some.injEq, exists_eq_left, exists_eq_left', exists_eq_right, V.int.injEq, V.bl.injEq, V.str.injEq, V.ref.injEq, true_and, and_true, exists_and_left, if_true, if_false, gTup, gCons, gNil, gSub, gName, Mk.rSetD, List.set_cons_zero, List.set_cons_succ, Bool.false_eq_true, List.cons.injEq, Bool.not_true, Bool.not_false, eq_self, decide_true, decide_false, c3]
    obtain ⟨da, dv, rfl, hD, prd⟩ := id hv
    have ld : dv.length = ds.length := (Paired.length prd).symm
    refine ⟨Nat.zero_le _, fun n1 hn1 => ⟨a, n1, xs, rfl, rfl, (Gx.new hn1).seqT hS, .inl (.inl upd_same), ?_⟩⟩
    have g1 := Gx.new (o := .tup []) hn1
    generalize upd H n1 (.tup []) = H1 at *
    refine ⟨_, rfl, ?_⟩
    by_cases ce : xs = []
    · subst ce
      rw [List.isEmpty_nil, if_pos rfl]
      have := q _ g1
      rw [ringB] at this
      exact this
    have ne : xs.isEmpty = false := by cases xs with
      | nil => exact absurd rfl ce
      | cons _ _ => rfl
    rw [ne, if_neg Bool.false_ne_true]
    have hS1 : ∀ {H'}, Gx H1 H' → SqT K H' a xs := fun g => (g1.trans g).seqT hS
    refine ⟨_, rfl, a, rfl, ⟨xs, hS1 .refl⟩, for_it (walk_tup (xs := xs)) (fun i σ H' => ∃ x2, σ = [some (.ref da), some (.ref a), x2, none, none, none] ∧ Gx H1 H' ∧ ∀ x ∈ xs.take i, idxB ds.length x = true) ⟨_, rfl, .refl, fun x hx => by rw [List.take_zero] at hx; cases hx⟩ (fun i σ H' _ h => ?_) (fun i x σ H2 H3 hi hP hY => ?_) (fun σ Hb hP => ?_)⟩
    · obtain ⟨_, _, g, _⟩ := h
      exact hS1 g
    · obtain ⟨rfl, hxi⟩ := hY
      obtain ⟨x2, rfl, g, al⟩ := hP
      obtain ⟨t, ht⟩ := hty x (List.mem_of_getElem? hxi)
      have bad : idxB ds.length x = false → Q (.bl false) H3 := fun z => by
        have := q _ (g1.trans g)
        rw [ringB, show xs.all (idxB ds.length) = false from Bool.eq_false_iff.mpr fun y => (by rw [List.all_eq_true.mp y x (List.mem_of_getElem? hxi)] at z; cases z), Bool.false_and, Bool.and_false] at this
        exact this
      simp only [cxOf, Cx.nox, L2.start, tRet, tAndV, tOrV, tNotV, tCB, tCons, tNil, tVar, tC, tOp, tUn, tChain, tIfS, tTest, tSeq, tNext, tB, tOr, tAnd, tNot, tAsg, tDrop, tCall, rI0, rI, rU, List.cons_append, List.nil_append, List.append_nil, List.map_cons, List.map_nil, List.length_cons, List.length_nil, Nat.reduceAdd, Nat.reduceSub, List.replicate_succ, List.replicate_zero, List.getElem?_cons_zero, List.getElem?_cons_succ, Option.some.injEq, exists_eq_left, exists_eq_left', exists_eq_right, V.int.injEq, V.bl.injEq, V.str.injEq, V.ref.injEq, true_and, and_true, exists_and_left, if_true, if_false, gTup, gCons, gNil, gSub, gName, Mk.rSetD, List.set_cons_zero, List.set_cons_succ, Bool.false_eq_true, List.cons.injEq, Bool.not_true, Bool.not_false, eq_self, decide_true, decide_false, c3]
      refine ⟨x, t, rfl, (ht.gx g1).gx g, _, rfl, ?_⟩
      by_cases c1 : isIntB x = true
      rotate_left
      · have c1' := Bool.eq_false_iff.mpr c1
        rw [c1', Bool.not_false, if_pos rfl]
        refine bad ?_
        cases x with
        | int n => rw [idxB, c1', Bool.false_and]
        | _ => rfl
      rw [c1, Bool.not_true, if_neg Bool.false_ne_true]
      cases x with
      | int n =>
        refine ⟨n, rfl, ?_⟩
        by_cases c2 : n < 0
        · rw [if_pos (decide_eq_true c2)]
          refine bad ?_
          rw [idxB, decide_eq_false (show ¬ 0 ≤ n by omega), Bool.false_and, Bool.and_false]
        rw [if_neg (by simp; omega)]
        refine ⟨dv, .inr ((g1.trans g).seqT hD), n, rfl, ?_⟩
        by_cases c3 : (dv.length : Int) ≤ n
        · rw [if_pos (decide_eq_true c3)]
          refine bad ?_
          rw [idxB, decide_eq_false (show ¬ n < (ds.length : Int) by omega), Bool.and_false, Bool.and_false]
        rw [if_neg (by simp; omega)]
        refine ⟨g, fun y hy => ?_⟩
        rw [take_s hxi, List.mem_append, List.mem_singleton] at hy
        rcases hy with hy | rfl
        · exact al y hy
        · rw [idxB, c1, decide_eq_true (show 0 ≤ n by omega), decide_eq_true (show n < (ds.length : Int) by omega)]; rfl
      | _ => cases c1
    obtain ⟨x2, rfl, g, al⟩ := hP
    rw [List.take_length] at al
    have ci : xs.all (idxB ds.length) = true := List.all_eq_true.mpr al
    replace g1 := g1.trans g
    clear hS1
    simp only [cxOf, Cx.nox, L2.start, tRet, tAndV, tOrV, tNotV, tCB, tCons, tNil, tVar, tC, tOp, tUn, tChain, tIfS, tTest, tSeq, tNext, tB, tOr, tAnd, tNot, tAsg, tDrop, tCall, rI0, rI, rU, List.cons_append, List.nil_append, List.append_nil, List.map_cons, List.map_nil, List.length_cons, List.length_nil, Nat.reduceAdd, Nat.reduceSub, List.replicate_succ, List.replicate_zero, List.getElem?_cons_zero, List.getElem?_cons_succ, Option.some.injEq, exists_eq_left, exists_eq_left', exists_eq_right, V.int.injEq, V.bl.injEq, V.str.injEq, V.ref.injEq, true_and, and_true, exists_and_left, if_true, if_false, gTup, gCons, gNil, gSub, gName, Mk.rSetD, List.set_cons_zero, List.set_cons_succ, Bool.false_eq_true, List.cons.injEq, Bool.not_true, Bool.not_false, eq_self, decide_true, decide_false, c3]
    refine (?_ : tLc _ _ _ _ _ _ _ _)
    have idx : ∀ x ∈ xs, ∃ n : Int, x = .int n ∧ 0 ≤ n ∧ n.toNat < ds.length := fun x hx => by
      have := List.all_eq_true.mp ci x hx
      cases x with
      | int n =>
        rw [idxB, Bool.and_eq_true, Bool.and_eq_true] at this
        have a := of_decide_eq_true this.2.1
        have b := of_decide_eq_true this.2.2
        exact ⟨n, rfl, a, by omega⟩
      | _ => cases this
    have hS1 : ∀ {H'}, Gx Hb H' → SqT K H' a xs := fun g => g.seqT (g1.seqT hS)
    refine ⟨_, rfl, a, rfl, ⟨_, hS1 .refl⟩, fun R hR => lc_it (walk_tup (xs := xs)) (PvG Hb R fun i ys H' => Paired (DifV K H') ((xs.take i).map (rowM ds)) ys) (PvG.ini hR (by rw [List.take_zero]; exact .nil)) (fun _ _ _ h => hS1 h.1) (fun i x H2 H3 hi hP hY => ?_) (fun H2 hP => ?_)⟩
    · obtain ⟨rfl, hxi⟩ := hY
      obtain ⟨g, ys, e, am⟩ := hP
      obtain ⟨n, rfl, n0, nl⟩ := idx x (List.mem_of_getElem? hxi)
      obtain ⟨y, hy, dy⟩ := pair_at' prd (List.getElem?_eq_getElem nl)
      have er : rowM ds (.int n) = ds[n.toNat] := by rw [rowM, List.getElem?_eq_getElem nl]; rfl
      refine ⟨rfl, _, rfl, _, rfl, da, dv, n, y, rfl, rfl, (g1.trans g).seqT hD, ?_, PvG.put g hR e (line_lt (m := 100000) ?_) ?_⟩
      · have := atI_nat hy
        rwa [Int.toNat_of_nonneg n0] at this
      · rw [← Paired.length am, List.length_map]; exact take_len lx
      · rw [take_s hxi, List.map_append, List.map_singleton, er]
        have tm : Tk K H3 (upd H3 R (.lst (ys ++ [y]))) := Tk.mut (by rw [e]; exact True.intro)
        exact pair_snoc (Paired.mapP am fun _ _ z => z.keep tm) ((dy.keep (g1.trans g).tk).keep tm)
    obtain ⟨g2, rs, e2, pr2⟩ := hP
    rw [List.take_length] at pr2
    have lrs : rs.length = xs.length := by rw [← Paired.length pr2, List.length_map]
    have gd : ∀ d ∈ xs.map (rowM ds), GoodD d := fun d hd => by
      obtain ⟨x, hx, rfl⟩ := List.mem_map.mp hd
      obtain ⟨n, rfl, n0, nl⟩ := idx x hx
      have er : rowM ds (.int n) = ds[n.toNat] := by rw [rowM, List.getElem?_eq_getElem nl]; rfl
      rw [er]
      exact hg.2 _ (List.getElem_mem nl)
    generalize hrw : xs.map (rowM ds) = rw' at *
    have lrw : rs.length = rw'.length := (Paired.length pr2).symm
    have rpos : 0 < rw'.length := by
      rw [← lrw, lrs]
      exact List.length_pos_iff.mpr ce
    have lr : rw'.length ≤ 100000 := by rw [← lrw, lrs]; exact lx
    have hR2 : ∀ {H'}, Gx H2 H' → SqL K H' R rs := fun g => .inl (.inl (g _ _ e2))
    refine (?_ : tLc _ _ _ _ _ _ _ _)
    let okJ : Nat → Bool := fun j => decide ((rw'[j]?.getD (zeroP, zeroP, 0)).2.1 = (rw'[(j + 1) % rw'.length]?.getD (zeroP, zeroP, 0)).1)
    refine ⟨_, rfl, R, rfl, rs, .inl (hR2 .refl), rs.length, rfl, by omega, by omega, fun D3 hD3 => lc_it (walk_range (lo := 0) (n := rs.length)) (PvG H2 D3 fun i ys _ => ys.length ≤ i ∧ ys.isEmpty = (List.range i).all okJ) (PvG.ini hD3 ⟨Nat.le_refl _, rfl⟩) (fun _ _ _ _ => trivial) (fun i x H3 H4 hi hP hY => ?_) (fun H3 hP => ?_)⟩
    · obtain ⟨rfl, rfl⟩ := hY
      obtain ⟨g, ys, e, ly, am⟩ := hP
      have il : i < rw'.length := by rw [← lrw]; exact hi
      obtain ⟨y2, hy2, dx⟩ := pair_at' pr2 (List.getElem?_eq_getElem il)
      have ml : (i + 1) % rw'.length < rw'.length := Nat.mod_lt _ rpos
      obtain ⟨y3, hy3, dx3⟩ := pair_at' pr2 (List.getElem?_eq_getElem ml)
      obtain ⟨p1, a1, b1, rfl, s1, ka1, kb1⟩ := dx.keep g.tk
      obtain ⟨p3, a3, b3, rfl, s3, ka3, kb3⟩ := dx3.keep g.tk
      have gdd := gd _ (List.getElem_mem il)
      have gd3 := gd _ (List.getElem_mem ml)
      refine ⟨rfl, ?_⟩
      refine ⟨_, rfl, _, rfl, R, rs, (0 : Int) + (i : Int), .ref p1, rfl, rfl, hR2 g, ?_, p1, _, 1, _, rfl, rfl, s1, atI_nat (j := 1) rfl, _, rfl, _, rfl, _, _, rfl, rfl, _, rfl, R, rfl, rs, .inl (hR2 g), (0 : Int) + (i : Int) + 1, rs.length, rfl, rfl, by omega, R, rs, _, .ref p3, rfl, rfl, hR2 g, ?_, p3, _, 0, _, rfl, rfl, s3, atI_nat (j := 0) rfl,
        ptD (rw'[i]).2.1, ptD (rw'[(i + 1) % rw'.length]).1, kb1.dp, ka3.dp, shaped_pt gdd.2.1, shaped_pt gd3.1, _, rfl, ?_⟩
      · rw [Int.zero_add]; exact atI_nat hy2
      · have := atI_nat hy3
        rw [Int.zero_add, lrw]
        exact this
      have eo : okJ i = decide ((rw'[i]).2.1 = (rw'[(i + 1) % rw'.length]).1) := by
        show decide _ = _
        rw [List.getElem?_eq_getElem il, List.getElem?_eq_getElem ml]; rfl
      rw [eqv_pt, ← eo]
      by_cases c : okJ i = true
      · rw [c]
        exact ⟨g, ys, e, by omega, by rw [List.range_succ, List.all_append, ← am]; simp [c]⟩
      · have c' := Bool.eq_false_iff.mpr c
        rw [c']
        refine ⟨_, rfl, PvG.put g hD3 e (line_lt (m := 100000) (by omega)) ⟨by rw [List.length_append]; simp; omega, ?_⟩⟩
        rw [List.range_succ, List.all_append]
        simp [c']
    obtain ⟨g3, ys3, e3, _, am3⟩ := hP
    refine ⟨Nat.zero_le _, fun n4 hn4 => ⟨D3, n4, ys3, rfl, rfl, .inl (.inl ((Gx.new hn4) _ _ e3)), .inl (.inl upd_same), _, rfl, ?_⟩⟩
    have g4 := g3.trans (Gx.new (o := .lst []) hn4)
    generalize upd H3 n4 (.lst []) = H4 at *
    rw [am3, show (List.range rs.length).all okJ = chainB rw' by rw [lrw]; rfl]
    by_cases cc : chainB rw' = true
    rotate_left
    · have cc' := Bool.eq_false_iff.mpr cc
      rw [cc', Bool.not_false, if_pos rfl]
      have := q _ ((g1.trans g2).trans g4)
      rw [ringB, ne, ci, hrw, cc', Bool.true_and, Bool.false_and, Bool.and_false] at this
      exact this
    rw [cc, Bool.not_true, if_neg Bool.false_ne_true]
    refine ⟨_, rfl, R, rfl, ⟨_, hR2 g4⟩, fun D4 hD4 => lc_it (walk_list (xs := rs)) (PvG H4 D4 (AMap rw' fun d => V.int d.2.2)) (PvG.ini hD4 .ini) (fun _ _ _ h => hR2 (g4.trans h.1)) (fun i x H4 H5 hi hP hY => ?_) (fun H5 hP => ?_)⟩
    · obtain ⟨rfl, hxi⟩ := hY
      obtain ⟨g, ys, e, am⟩ := hP
      obtain ⟨d, hd, dx⟩ := pair_at pr2 hxi
      obtain ⟨p1, a1, b1, rfl, s1, ka1, kb1⟩ := dx.keep (g4.trans g).tk
      have pt := am.put (H' := upd H5 D4 (.lst (ys ++ [.int d.2.2]))) hd
      exact ⟨rfl, _, rfl, p1, _, 2, _, rfl, rfl, s1, atI_nat (j := 2) rfl, PvG.put g hD4 e (line_lt (am.len (n := 100000) lr)) pt⟩
    obtain ⟨g5, ys5, e5, am5⟩ := hP
    rw [lrw] at am5
    refine ⟨D4, rw'.map (·.2.2), rfl, .inl (.inl (by rw [e5, AMap.fin am5, List.map_map]; rfl)), ?_⟩
    have := q _ (((g1.trans g2).trans g4).trans g5)
    rw [ringB, ne, ci, hrw, cc, Bool.true_and, Bool.true_and] at this
    exact ⟨_, rfl, this⟩
end
end Mk


set_option Elab.async false
set_option linter.all false
set_option maxRecDepth 100000
set_option maxHeartbeats 400000
/-! one of any items; a drawn walk -/
namespace Mk
open PySem PySem.Spec PyProof.Rows L2
section
variable {P : Program} {w : World} {K : PySem.W.Frag} {mg : Str → Option Value} {base : Heap}
def spAny : Sp := fun vs H Q _ => ∃ (k a : Addr) (xs : List V), vs = [.ref k, .ref a] ∧ KegV H k ∧ H a = some (.lst xs) ∧ 0 < xs.length ∧ xs.length < 1000 ∧ k ≠ a ∧
  ∀ x ∈ xs, ∀ u, KegV (upd H k u) k → Q x (upd H k u)
theorem any_choice (T : Tops mg) (D : Def K mg "_law_choice" s__law_choice ["keg", "items"]) (C__law_tap : Cal P w K mg base "_law_tap" 1 ["keg", "total"] spTap) : Cal P w K mg base "_law_choice" 2 ["keg", "items"] spAny := by
  refine Cal.of D sc__law_choice (fun vs H Q E h => ?_) (fun f cdv A outer s H vs Q E hr h => ?_)
  · obtain ⟨k, a, ks, rfl, _⟩ := h; rfl
  · obtain ⟨k, a, xs, rfl, hk, hx, l0, l1, ne, q⟩ := h
    have hu := hu_of hr
    have h0 := hr.units0
    refine ⟨_, (pss_one (ps_ret (pe_ix ix_list (pv 1) (pe_cal C__law_tap hr (by decide) (by rfl) (pa_cons (pv 0) (pa_cons (pe_callB call_len_seq (by rfl) T.b_len (by decide +kernel) (pa_cons (pv 1) pa_nil)) pa_nil))) (fun _ _ => rfl)))), ?_⟩
    simp only [cxOf, Cx.nox, L2.start, tRet, tAndV, tOrV, tNotV, tCB, tCons, tNil, tVar, tC, tOp, tUn, tChain, tIfS, tTest, tSeq, tNext, tB, tOr, tAnd, tNot, tAsg, tDrop, tCall, rI0, rI, rU, List.cons_append, List.nil_append, List.append_nil, List.map_cons, List.map_nil, List.length_cons, List.length_nil, Nat.reduceAdd, Nat.reduceSub, List.replicate_succ, List.replicate_zero, List.getElem?_cons_zero, List.getElem?_cons_succ, Option.some.injEq, exists_eq_left, exists_eq_left', exists_eq_right, V.int.injEq, V.bl.injEq, V.str.injEq, V.ref.injEq, true_and, and_true, exists_and_left, if_true, if_false, gTup, gCons, gNil, gSub, gName, Mk.rSetD, List.set_cons_zero, List.set_cons_succ, Bool.false_eq_true, List.cons.injEq, Bool.not_true, Bool.not_false, eq_self, decide_true, decide_false, c3, N__law_choice]
    refine ⟨_, .inl (.inl (.inl hx)), k, _, rfl, hk, by omega, by omega, fun r u r0 r1 hk2 => ?_⟩
    have hrl : r.toNat < xs.length := by omega
    obtain ⟨y, hy⟩ : ∃ y, xs[r.toNat]? = some y := ⟨_, List.getElem?_eq_getElem hrl⟩
    refine ⟨a, xs, r, y, rfl, rfl, .inl (.inl (by rw [upd_ne ne.symm]; exact hx)), ?_, q y (List.mem_of_getElem? hy) u hk2⟩
    have := atI_nat hy
    rwa [Int.toNat_of_nonneg r0] at this
theorem line_lt2 {n : Nat} (h : n ≤ 900) : n < 1000 := by omega
theorem line_lt_le {n : Nat} (h : n ≤ 1000) : n ≤ sizeLine := Nat.le_of_lt (line_lt h)
def spWalk (K : PySem.W.Frag) : Sp := fun vs H Q _ => ∃ k v ds, vs = [.ref k, v] ∧ KegV H k ∧ DsV K H ds v ∧ GoodDs ds ∧
  ∀ H' a (ns : List Int), GxB k H H' → KegV H' k → SqT K H' a (ns.map V.int) → ns.length ≤ 7 → (∀ n ∈ ns, 0 ≤ n ∧ n < (ds.length : Int)) → Q (.ref a) H'
theorem any_walk (T : Tops mg) (D : Def K mg "_law_drawn_walk" s__law_drawn_walk ["keg", "differences"]) (C__law_tap : Cal P w K mg base "_law_tap" 1 ["keg", "total"] spTap) (C__law_choice : Cal P w K mg base "_law_choice" 2 ["keg", "items"] spAny) : Cal P w K mg base "_law_drawn_walk" 3 ["keg", "differences"] (spWalk K) := by
  refine Cal.of D sc__law_drawn_walk (fun vs H Q E h => ?_) (fun f cdv A outer s H vs Q E hr h => ?_)
  · obtain ⟨k, v, ds, rfl, _⟩ := h; rfl
  · obtain ⟨k, v, ds, rfl, hk, ⟨a, vs, rfl, hS, pr⟩, hg, q⟩ := h
    have hu := hu_of hr
    have h0 := hr.units0
    have h64 := hr.units
    refine ⟨_, (pss_cons (ps_if (pt_cmpR (op_eqT h0) (pv 1) (pe_tup pa_nil) (nomark _)) (pss_one (ps_ret (pe_tup pa_nil))) pss_nil)
      (pss_cons (ps_set (i := 2) sc__law_drawn_walk.nd rfl (Or.inr rfl) (pe_lst (pa_cons (pe_cal C__law_tap hr (by decide) (by rfl) (pa_cons (pv 0) (pa_cons (pe_callB call_len_seq (by rfl) T.b_len (by decide +kernel) (pa_cons (pv 1) pa_nil)) pa_nil))) pa_nil)))
      (pss_cons (ps_for PassesOwn.never rfl (pi_range1 (by rfl) T.b_range (pa_cons (pe_cal C__law_tap hr (by decide) (by rfl) (pa_cons (pv 0) (pa_cons pe_int pa_nil))) pa_nil)) (pg_name (i := 3) sc__law_drawn_walk.nd rfl (Or.inl rfl))
      (pss_cons (ps_setLc (i := 4) (own := [("at", 5)]) rfl sc__law_drawn_walk.nd rfl rfl (sw_true rfl rfl rfl (by decide +kernel)) (pi_range1 (by rfl) T.b_range (pa_cons (pe_callB call_len_seq (by rfl) T.b_len (by decide +kernel) (pa_cons (pv 1) pa_nil)) pa_nil)) (blkOk_by (own := [("at", 5)]) (N := N__law_drawn_walk) (sc := defScope s__law_drawn_walk) (by decide +kernel)) (fun _ _ _ _ _ => (pg_name (i := 5) sc__law_drawn_walk.nd rfl (Or.inl rfl))) (fun _ _ _ _ _ => (pts_one (pt_cmpR (op_eqDB h64 (K := K) rfl) (pe_ix (ix_tup' (K := K) rfl) (pe_ix (ix_tup' (K := K) rfl) (pv 1) (pv 5) (fun _ _ => rfl)) pe_int (fun _ _ => rfl)) (pe_ix (ix_tup' (K := K) rfl) (pe_ix (ix_tup' (K := K) rfl) (pv 1) (pe_ix (ix_listB (K := K) rfl) (pv 2) (pe_un un_neg pe_int) (fun _ _ => rfl)) (fun _ _ => rfl)) pe_int (fun _ _ => rfl)) (nomark _)))) (fun _ _ _ _ _ => (pv 5)))
      (pss_one (ps_set (i := 2) sc__law_drawn_walk.nd rfl (Or.inr rfl) (pe_op op_cat (pv 2) (pe_ifExp (pt_cmpR (op_neE h0) (pv 4) (pe_lst pa_nil) (nomark _)) (pe_lst (pa_cons (pe_cal C__law_choice hr (by decide) (by rfl) (pa_cons (pv 0) (pa_cons (pv 4) pa_nil))) pa_nil)) (pe_lst pa_nil)))))))
      (pss_one (ps_ret (pe_callTy call_tuple_of (by rfl) T.b_tuple (by decide +kernel) (pa_cons (pv 2) pa_nil))))))), ?_⟩
    simp only [cxOf, Cx.nox, L2.start, tRet, tAndV, tOrV, tNotV, tCB, tCons, tNil, tVar, tC, tOp, tUn, tChain, tIfS, tTest, tSeq, tNext, tB, tOr, tAnd, tNot, tAsg, tDrop, tCall, rI0, rI, rU, List.cons_append, List.nil_append, List.append_nil, List.map_cons, List.map_nil, List.length_cons, List.length_nil, Nat.reduceAdd, Nat.reduceSub, List.replicate_succ, List.replicate_zero, List.getElem?_cons_zero, List.getElem?_cons_succ, Option.some.injEq, exists_eq_left, exists_eq_left', exists_eq_right, V.int.injEq, V.bl.injEq, V.str.injEq, V.ref.injEq, true_and, and_true, exists_and_left, if_true, if_false, gTup, gCons, gNil, gSub, gName, Mk.rSetD, List.set_cons_zero, List.set_cons_succ, Bool.false_eq_true, List.cons.injEq, Bool.not_true, Bool.not_false, eq_self, decide_true, decide_false, c3, N__law_drawn_walk]
    refine ⟨Nat.zero_le _, fun n1 hn1 => ⟨a, n1, vs, rfl, rfl, (Gx.new hn1).seqT hS, .inl (.inl upd_same), _, rfl, ?_⟩⟩
    have g1 := Gx.new (o := .tup []) hn1
    have keg : ∀ {H'}, Gx H H' → KegV H' k := fun g => let ⟨x, y, z, h⟩ := hk; ⟨x, y, z, g _ _ h⟩
    by_cases ce : vs = []
    · subst ce
      rw [List.isEmpty_nil, if_pos rfl]
      exact ⟨Nat.zero_le _, fun n2 hn2 => q _ n2 [] (g1.trans (.new hn2)).but (keg (g1.trans (.new hn2))) (.inl (.inl upd_same)) (Nat.zero_le _) nofun⟩
    have l0 : 0 < vs.length := List.length_pos_iff.mpr ce
    have ne : vs.isEmpty = false := by cases vs with
      | nil => exact absurd rfl ce
      | cons _ _ => rfl
    rw [ne, if_neg Bool.false_ne_true]
    have lv : vs.length = ds.length := (Paired.length pr).symm
    have l60 : vs.length ≤ 60 := by rw [lv]; exact hg.1
    generalize upd H n1 (.tup []) = H1 at *
    refine ⟨_, rfl, _, rfl, a, rfl, vs, .inr (g1.seqT hS), k, _, rfl, keg g1, by omega, by omega, fun r u r0 r1 hk2 => ⟨(by show 1 ≤ sizeLine; decide), fun F hF => ?_⟩⟩
    have kl : ∀ {H' : Hp}, KegV H' k → Mut (H' k) := fun ⟨_, _, _, h⟩ => by rw [h]; exact True.intro
    have gb : GxB k H (upd H1 k u) := fun b o hb ho => by rw [upd_ne hb]; exact g1 _ _ ho
    have tb : Tk K H (upd H1 k u) := g1.tk.trans (Tk.mut (kl (keg g1)))
    generalize upd H1 k u = H2 at *
    have kF : F ≠ k := fun z => by obtain ⟨_, _, _, h⟩ := hk2; rw [z, h] at hF; cases hF
    have gF := Gx.new (o := .lst [.int r]) hF
    have eF : (upd H2 F (.lst [.int r])) F = some (.lst [.int r]) := upd_same
    generalize upd H2 F (.lst [.int r]) = H3 at *
    have hk3 : KegV H3 k := let ⟨x, y, z, h⟩ := hk2; ⟨x, y, z, gF _ _ h⟩
    refine ⟨_, rfl, k, _, rfl, hk3, by decide, by decide, fun c u4 c0 c1 hk4 => ⟨c, rfl, by omega, by omega, ?_⟩⟩
    refine for_it walk_range (fun i σ H' => ∃ F' x3 x4 x5 ms m, σ = [some (.ref k), some (.ref a), some (.ref F'), x3, x4, x5] ∧ GxB k H H' ∧ Tk K H H' ∧ KegV H' k ∧ F' ≠ k ∧ H' F' = some (.lst ((ms ++ [m]).map V.int)) ∧ ms.length ≤ i ∧ (∀ n ∈ ms ++ [m], 0 ≤ n ∧ n < (ds.length : Int)))
      ⟨F, none, none, none, [], r, rfl, ?_, ?_, hk4, kF, by rw [upd_ne kF]; exact eF, Nat.le_refl _, fun n hn => by rw [List.nil_append, List.mem_singleton] at hn; omega⟩ (fun _ _ _ _ _ => trivial) (fun i x σ H5 H6 hi hP hY => ?_) (fun σ H5 hP => ?_)
    · exact fun b o hb ho => by rw [upd_ne hb]; exact gF _ _ (gb b o hb ho)
    · exact (tb.trans gF.tk).trans (Tk.mut (kl hk3))
    · obtain ⟨rfl, rfl⟩ := hY
      obtain ⟨F', x3, x4, x5, ms, m, rfl, gB, tB, hk5, nF, eF', lm, bd⟩ := hP
      obtain ⟨a', vs', ea', hS6, pr6⟩ := DsV.keep (v := .ref a) ⟨a, vs, rfl, hS, pr⟩ tB
      cases ea'
      have lv6 : vs'.length = ds.length := (Paired.length pr6).symm
      refine ⟨_, rfl, a, rfl, vs', .inr hS6, vs'.length, rfl, by omega, by omega, fun D hD => lc_it (walk_range (lo := 0) (n := vs'.length)) (PvG H6 D fun i ys _ => ∃ ns : List Int, ys = ns.map V.int ∧ ns.length ≤ i ∧ ∀ n ∈ ns, 0 ≤ n ∧ n < (ds.length : Int)) (PvG.ini hD ⟨[], rfl, Nat.le_refl _, nofun⟩) (fun _ _ _ _ => trivial) (fun j x H7 H8 hj hP hY => ?_) (fun H7 hP => ?_)⟩
      · obtain ⟨rfl, rfl⟩ := hY
        obtain ⟨g, ys, e, ns, rfl, ln, bn⟩ := hP
        refine ⟨rfl, ?_⟩
        have jl : j < ds.length := by rw [← lv6]; exact hj
        obtain ⟨y2, hy2, dx⟩ := pair_at' pr6 (List.getElem?_eq_getElem jl)
        have bm := bd m (by simp)
        have ml : m.toNat < ds.length := by omega
        obtain ⟨y3, hy3, dx3⟩ := pair_at' pr6 (List.getElem?_eq_getElem ml)
        obtain ⟨p1, a1, b1, rfl, s1, ka1, kb1⟩ := dx.keep g.tk
        obtain ⟨p3, a3, b3, rfl, s3, ka3, kb3⟩ := dx3.keep g.tk
        have gdd := hg.2 _ (List.getElem_mem jl)
        have gd3 := hg.2 _ (List.getElem_mem ml)
        have bj : 0 ≤ (0 : Int) + (j : Int) ∧ (0 : Int) + (j : Int) < (ds.length : Int) := by omega
        refine ⟨_, rfl, _, rfl, a, vs', (0 : Int) + (j : Int), .ref p1, rfl, rfl, g.seqT hS6, ?_, p1, _, 0, _, rfl, rfl, s1, atI_nat (j := 0) rfl, _, rfl, _, rfl, _, rfl, F', _, -1, .int m, rfl, rfl, .inl (.inl (g _ _ eF')), ?_, a, vs', m, .ref p3, rfl, rfl, g.seqT hS6, ?_, p3, _, 1, _, rfl, rfl, s3, atI_nat (j := 1) rfl,
          ptD (ds[j]).1, ptD (ds[m.toNat]).2.1, ka1.dp, kb3.dp, shaped_pt gdd.1, shaped_pt gd3.2.1, _, rfl, ?_⟩
        · rw [Int.zero_add]; exact atI_nat hy2
        · rw [List.map_append]; exact atI_last _ _
        · have := atI_nat hy3
          rwa [Int.toNat_of_nonneg bm.1] at this
        generalize PyData.eqv _ _ = bb
        cases bb with
        | true =>
          refine ⟨_, rfl, PvG.put g hD e (line_lt (m := 60) (by rw [List.length_map]; omega)) ⟨ns ++ [(0 : Int) + (j : Int)], by rw [List.map_append]; rfl, by rw [List.length_append]; simp; omega, fun n hn => ?_⟩⟩
          rw [List.mem_append, List.mem_singleton] at hn
          rcases hn with hn | rfl
          · exact bn n hn
          · exact bj
        | false => exact ⟨g, _, e, ns, rfl, by omega, bn⟩
      · obtain ⟨g, ys, e, ns, rfl, ln, bn⟩ := hP
        refine ⟨_, rfl, _, rfl, Nat.zero_le _, fun e1 he1 => ⟨D, e1, ns.map V.int, rfl, rfl, (Gx.new he1).seqL (.inl (.inl e)), .inl (.inl upd_same), _, rfl, ?_⟩⟩
        have g8 := g.trans (Gx.new (o := .lst []) he1)
        have e8 := Gx.new (o := .lst []) he1 _ _ e
        generalize upd H7 e1 (.lst []) = H8 at *
        have hk8 : KegV H8 k := let ⟨x, y, z, h⟩ := hk5; ⟨x, y, z, g8 _ _ h⟩
        have B8 : GxB k H H8 := fun b o hb ho => g8 _ _ (gB b o hb ho)
        have T8 : Tk K H H8 := tB.trans g8.tk
        have eF8 := g8 _ _ eF'
        by_cases cn : ns = []
        · subst cn
          refine ⟨Nat.zero_le _, fun b hb => ⟨F', b, _, _, rfl, rfl, Gx.new hb _ _ eF8, upd_same, ?_, fun p hp => ?_⟩⟩
          · exact line_lt_le (by rw [List.length_map, List.length_append]; simp; omega)
          · have g10 := (Gx.new (o := .lst []) hb).trans (Gx.new (o := .lst ((ms ++ [m]).map V.int ++ [])) hp)
            refine ⟨p, _, _, _, ms, m, rfl, fun b o hb ho => g10 _ _ (B8 b o hb ho), T8.trans g10.tk, (let ⟨x, y, z, h⟩ := hk8; ⟨x, y, z, g10 _ _ h⟩), ?_, ?_, by omega, bd⟩
            · intro z
              obtain ⟨_, _, _, h⟩ := hk8
              rw [z, Gx.new hb _ _ h] at hp
              cases hp
            · rw [upd_same, List.append_nil]
        · obtain ⟨n0, ns', rfl⟩ : ∃ n0 ns', ns = n0 :: ns' := by
            cases ns with
            | nil => exact absurd rfl cn
            | cons a l => exact ⟨a, l, rfl⟩
          have nDk : k ≠ D := fun z => by obtain ⟨_, _, _, h⟩ := hk5; rw [← z, h] at hD; cases hD
          refine ⟨_, rfl, _, rfl, k, D, (n0 :: ns').map V.int, rfl, hk8, e8, by simp, line_lt2 (by rw [List.length_map]; omega), nDk, fun x hx u hku => ?_⟩
          obtain ⟨nx, hnx, rfl⟩ := List.mem_map.mp hx
          have B9 : GxB k H (upd H8 k u) := fun b o hb ho => by rw [upd_ne hb]; exact B8 b o hb ho
          have T9 : Tk K H (upd H8 k u) := T8.trans (Tk.mut (kl hk8))
          have eF9 : (upd H8 k u) F' = some (.lst ((ms ++ [m]).map V.int)) := by rw [upd_ne nF]; exact eF8
          generalize upd H8 k u = H9 at *
          refine ⟨(by show 1 ≤ sizeLine; decide), fun l hl => ⟨F', l, _, _, rfl, rfl, Gx.new hl _ _ eF9, upd_same, ?_, fun p hp => ?_⟩⟩
          · exact line_lt_le (by rw [List.length_map, List.length_append]; simp; omega)
          · have g10 := (Gx.new (o := .lst [.int nx]) hl).trans (Gx.new (o := .lst ((ms ++ [m]).map V.int ++ [.int nx])) hp)
            refine ⟨p, _, _, _, ms ++ [m], nx, rfl, fun b o hb ho => g10 _ _ (B9 b o hb ho), T9.trans g10.tk, (let ⟨x, y, z, h⟩ := hku; ⟨x, y, z, g10 _ _ h⟩), ?_, ?_, by rw [List.length_append]; simp; omega, fun n hn => ?_⟩
            · intro z
              obtain ⟨_, _, _, h⟩ := hku
              rw [z, Gx.new hl _ _ h] at hp
              cases hp
            · rw [upd_same, List.map_append (l₁ := ms ++ [m])]; rfl
            · rcases List.mem_append.mp hn with hn | hn
              · exact bd n hn
              · rw [List.mem_singleton] at hn
                rw [hn]; exact bn nx hnx
    · obtain ⟨F', x3, x4, x5, ms, m, rfl, gB, tB, hk5, nF, eF', lm, bd⟩ := hP
      refine ⟨_, rfl, F', rfl, _, .inl ⟨.inl (.inl eF'), fun l hl => q _ l (ms ++ [m]) (fun b o hb ho => Gx.new hl _ _ (gB b o hb ho)) (let ⟨x, y, z, h⟩ := hk5; ⟨x, y, z, Gx.new hl _ _ h⟩) (.inl (.inl upd_same)) (by rw [List.length_append]; simp; omega) bd⟩⟩
end
end Mk


set_option Elab.async false
set_option linter.all false
set_option maxRecDepth 100000
set_option maxHeartbeats 400000
/-! drawn differences -/
namespace Mk
open PySem PySem.Spec PyProof.Rows L2
/-- lists that are hidden: what is told later leans on none of them -/
class Msk where
  m : Addr → Prop
theorem KegV.mut {H : Hp} {k : Addr} (h : KegV H k) : Mut (H k) := by obtain ⟨_, _, _, h⟩ := h; rw [h]; exact True.intro
theorem KegV.gx {H H' : Hp} {k : Addr} (h : KegV H k) (g : Gx H H') : KegV H' k := let ⟨a, b, c, e⟩ := h; ⟨a, b, c, g _ _ e⟩
theorem KegV.ne {H : Hp} {k p : Addr} (h : KegV H k) (n : H p = none) : p ≠ k := fun z => by obtain ⟨_, _, _, h⟩ := h; rw [← z, n] at h; cases h
theorem KegV.off {H : Hp} {k p : Addr} {o : HO} (h : KegV H k) (n : p ≠ k) : KegV (upd H p o) k := let ⟨a, b, c, e⟩ := h; ⟨a, b, c, by rw [upd_ne n.symm]; exact e⟩
section
variable [Msk]
structure KeM (H : Hp) (k : Addr) : Prop where
  kg : KegV H k
  ls : ∀ a, Msk.m a → ∃ xs, H a = some (.lst xs)
def Off (k a : Addr) : Prop := a ≠ k ∧ ¬ Msk.m a
/-- a keg k, all else kept -/
structure KSt (k : Addr) (H H' : Hp) : Prop where
  gx : GxB k H H'
  kg : KeM H' k
variable {K : PySem.W.Frag} {H H' H2 : Hp} {k p F : Addr} {u : HO}
theorem KeM.mut (h : KeM H k) : Mut (H k) := h.kg.mut
theorem KeM.gx (h : KeM H k) (g : Gx H H') : KeM H' k := ⟨h.kg.gx g, fun a ha => let ⟨xs, e⟩ := h.ls a ha; ⟨xs, g _ _ e⟩⟩
theorem KeM.ne (h : KeM H k) (n : H p = none) : Off k p := ⟨h.kg.ne n, fun z => by obtain ⟨xs, e⟩ := h.ls p z; rw [n] at e; cases e⟩
theorem KeM.off (h : KeM H k) (n : Off k p) : KeM (upd H p u) k := ⟨h.kg.off n.1, fun a ha => by
  rw [upd_ne (fun z => n.2 (by rw [← z]; exact ha))]; exact h.ls a ha⟩
theorem KeM.tap (h : KeM H k) (h2 : KegV (upd H k u) k) : KeM (upd H k u) k := ⟨h2, fun a ha => by
  by_cases e : a = k
  · obtain ⟨x, y, z, e2⟩ := h2
    rw [e]; exact ⟨_, e2⟩
  · rw [upd_ne e]; exact h.ls a ha⟩
theorem KSt.ini (h : KeM H k) : KSt k H H := ⟨.refl, h⟩
theorem KSt.tap (s : KSt k H H') (h : KegV (upd H' k u) k) : KSt k H (upd H' k u) := ⟨s.gx.trans .set, s.kg.tap h⟩
theorem KSt.grow (s : KSt k H H') (g : Gx H' H2) : KSt k H H2 := ⟨s.gx.trans g.but, s.kg.gx g⟩
theorem KSt.step (s : KSt k H H') (t : KSt k H' H2) : KSt k H H2 := ⟨s.gx.trans t.gx, t.kg⟩
/-- an object that was not there at the start is written -/
theorem KSt.put (s : KSt k H H') (hF : H F = none) (n : Off k F) : KSt k H (upd H' F u) := ⟨fun a o hk ho => by rw [upd_ne (ne_of_none ho hF)]; exact s.gx a o hk ho, s.kg.off n⟩
theorem KSt.free (s : KSt k H H') (hp : H' p = none) : H p = none := by
  rcases e : H p with _ | o
  · rfl
  · rw [s.gx p o (s.kg.ne hp).1 e] at hp; cases hp
theorem KSt.at' (s : KSt k H H') (n : p ≠ k) {o : HO} (h : H p = some o) : H' p = some o := s.gx p o n h
theorem KSt.at (s : KSt k H H') (n : Off k p) {o : HO} (h : H p = some o) : H' p = some o := s.gx p o n.1 h
theorem KSt.tk (s : KSt k H H') (h : KeM H k) : Tk K H H' := s.gx.tkM h.mut
end
/-- drawn differences: their points among ks, their numbers small -/
def DrD (ks : List PK) (d : Dif) : Prop := d.1 ∈ ks ∧ d.2.1 ∈ ks ∧ -(10 ^ 31) < d.2.2 ∧ d.2.2 < 10 ^ 31
section
variable {P : Program} {w : World} {K : PySem.W.Frag} {mg : Str → Option Value} {base : Heap}
def spDifs (K : PySem.W.Frag) : Sp := fun vs H Q _ => ∃ (mm : Msk) (k p : Addr) (ks : List PK) (c wd : Int), vs = [.ref k, .ref p, .int c, .int wd] ∧ KeM H k ∧ p ≠ k ∧ PLV K H p ks ∧ 0 < ks.length ∧ ks.length ≤ 100 ∧ 0 ≤ c ∧ c ≤ 60 ∧ 0 ≤ wd ∧ wd ≤ 100 ∧
  ∀ H' v ds, KSt k H H' → DsV K H' ds v → ds.length ≤ c.toNat → (∀ d ∈ ds, DrD ks d) → Q v H'
theorem C__law_differences (T : Tops mg) (D : Def K mg "_law_differences" s__law_differences ["keg", "points", "count", "wide"]) (C__law_tap : Cal P w K mg base "_law_tap" 1 ["keg", "total"] spTap) (C__law_choice : Cal P w K mg base "_law_choice" 2 ["keg", "items"] spAny) : Cal P w K mg base "_law_differences" 3 ["keg", "points", "count", "wide"] (spDifs K) := by
  refine Cal.of D sc__law_differences (fun vs H Q E h => ?_) (fun f cdv A outer s H vs Q E hr h => ?_)
  · obtain ⟨mm, k, p, ks, c, wd, rfl, _⟩ := h; rfl
  · obtain ⟨mm, k, p, ks, c, wd, rfl, hk, nkp, ⟨xs, hx, pr⟩, l0, l1, c0, c1, w0, w1, q⟩ := h
    have hu := hu_of hr
    have h0 := hr.units0
    refine ⟨_, (pss_cons (ps_set (i := 4) sc__law_differences.nd rfl (Or.inl rfl) (pe_lst pa_nil))
      (pss_cons (ps_for PassesOwn.never rfl (pi_range1 (by rfl) T.b_range (pa_cons (pv 2) pa_nil)) (pg_name (i := 5) sc__law_differences.nd rfl (Or.inl rfl))
      (pss_cons (ps_par rfl sc__law_differences.nd (i := 6) (j := 7) rfl rfl (by decide) rfl rfl (pa_cons (pe_cal C__law_choice hr (by decide) (by rfl) (pa_cons (pv 0) (pa_cons (pv 1) pa_nil))) (pa_cons (pe_cal C__law_choice hr (by decide) (by rfl) (pa_cons (pv 0) (pa_cons (pv 1) pa_nil))) pa_nil)) (by rfl))
      (pss_one (ps_expr (pe_bm PySem.F.plainAttrs_list PySem.F.slot_list_append PySem.F.type_list_append mt_append (pv 4) (pa_cons (pe_tup (pa_cons (pv 6) (pa_cons (pv 7) (pa_cons (pe_op op_add (pe_op op_sub (pe_cal C__law_tap hr (by decide) (by rfl) (pa_cons (pv 0) (pa_cons (pe_op op_add (pe_op op_mul pe_int (pv 3)) pe_int) pa_nil))) (pv 3)) (pe_cal C__law_choice hr (by decide) (by rfl) (pa_cons (pv 0) (pa_cons (pe_lst (pa_cons pe_int (pa_cons pe_int (pa_cons pe_int (pa_cons pe_int (pa_cons (pe_op op_powB pe_int pe_int) pa_nil)))))) pa_nil)))) pa_nil)))) pa_nil))))))
      (pss_one (ps_ret (pe_callTy call_tuple_of (by rfl) T.b_tuple (by decide +kernel) (pa_cons (pv 4) pa_nil)))))), ?_⟩
    simp only [cxOf, Cx.nox, L2.start, tRet, tAndV, tOrV, tNotV, tCB, tCons, tNil, tVar, tC, tOp, tUn, tChain, tIfS, tTest, tSeq, tNext, tB, tOr, tAnd, tNot, tAsg, tDrop, tCall, rI0, rI, rU, List.cons_append, List.nil_append, List.append_nil, List.map_cons, List.map_nil, List.length_cons, List.length_nil, Nat.reduceAdd, Nat.reduceSub, List.replicate_succ, List.replicate_zero, List.getElem?_cons_zero, List.getElem?_cons_succ, Option.some.injEq, exists_eq_left, exists_eq_left', exists_eq_right, V.int.injEq, V.bl.injEq, V.str.injEq, V.ref.injEq, true_and, and_true, exists_and_left, if_true, if_false, gTup, gCons, gNil, gSub, gName, Mk.rSetD, List.set_cons_zero, List.set_cons_succ, Bool.false_eq_true, List.cons.injEq, Bool.not_true, Bool.not_false, eq_self, decide_true, decide_false, c3, N__law_differences, tPar]
    refine ⟨Nat.zero_le _, fun F hF => ⟨_, rfl, c, rfl, by omega, by omega, ?_⟩⟩
    have lxs : xs.length = ks.length := (Paired.length pr).symm
    refine for_it walk_range (fun i σ H' => ∃ x5 x6 x7 ds ys, σ = [some (.ref k), some (.ref p), some (.int c), some (.int wd), some (.ref F), x5, x6, x7] ∧ KSt k H H' ∧ H' F = some (.lst ys) ∧ Paired (DifV K H') ds ys ∧ ds.length = i ∧ ∀ d ∈ ds, DrD ks d)
      ⟨_, _, _, [], [], rfl, (KSt.ini hk).grow (.new hF), upd_same, .nil, rfl, nofun⟩ (fun _ _ _ _ _ => trivial) (fun i x σ H1 H2 hi hP hY => ?_) (fun σ H1 hP => ?_)
    · obtain ⟨rfl, rfl⟩ := hY
      obtain ⟨x5, x6, x7, ds, ys, rfl, s, eF, prF, ld, sm⟩ := hP
      have pf : ∀ {H' u}, KSt k H H' → KegV (upd H' k u) k → H' F = some (.lst ys) → Paired (DifV K H') ds ys → KSt k H (upd H' k u) ∧ (upd H' k u) F = some (.lst ys) ∧ Paired (DifV K (upd H' k u)) ds ys := fun {H' u} s kg e pr =>
        ⟨s.tap kg, by rw [upd_ne ((hk.ne hF).1)]; exact e, Paired.mapP pr fun _ _ z => z.keep (Tk.mut s.kg.mut)⟩
      refine ⟨_, rfl, _, rfl, k, p, xs, rfl, s.kg.kg, s.at' nkp hx, by omega, by omega, nkp.symm, fun v1 m1 u1 kg1 => ?_⟩
      obtain ⟨s1, e1, pr1⟩ := pf s kg1 eF prF
      generalize upd H2 k u1 = H3 at *
      refine ⟨_, rfl, _, rfl, k, p, xs, rfl, s1.kg.kg, s1.at' nkp hx, by omega, by omega, nkp.symm, fun v2 m2 u2 kg2 => ?_⟩
      obtain ⟨s2, e2, pr2⟩ := pf s1 kg2 e1 pr1
      generalize upd H3 k u2 = H4 at *
      refine ⟨_, _, rfl, ?_⟩
      have hS2 : KSt k H H4 := s2
      refine ⟨_, rfl, .inl ⟨rfl, _, .inl (.inl e2)⟩, _, rfl, _, rfl, _, rfl, _, rfl, 2, wd, rfl, rfl, cmul_l, 2 * wd, 1, rfl, rfl, k, 2 * wd + 1, rfl, s2.kg.kg, by omega, by omega, fun r u3 r0 r1 kg3 => ?_⟩
      obtain ⟨s3, e3, pr3⟩ := pf s2 kg3 e2 pr2
      generalize upd H4 k u3 = H5 at *
      refine ⟨_, rfl, r, wd, rfl, rfl, _, rfl, 10, 30, rfl, rfl, ⟨by decide, by decide⟩, (by show 5 ≤ sizeLine; decide), fun l hl => ?_⟩
      have gl := Gx.new (o := .lst [.int 0, .int 0, .int 1, .int 2, .int (10 ^ Int.toNat 30)]) hl
      have el : (upd H5 l (.lst [.int 0, .int 0, .int 1, .int 2, .int (10 ^ Int.toNat 30)])) l = some (.lst [.int 0, .int 0, .int 1, .int 2, .int (10 ^ Int.toNat 30)]) := upd_same
      have s4 := s3.grow gl
      have e4 := gl _ _ e3
      have pr4 := Paired.mapP pr3 fun _ _ z => z.keep gl.tk
      have nl := s3.kg.ne hl
      generalize upd H5 l (.lst [.int 0, .int 0, .int 1, .int 2, .int (10 ^ Int.toNat 30)]) = H6 at *
      refine ⟨k, l, _, rfl, s4.kg.kg, el, by decide, by decide, nl.1.symm, fun x hx4 u5 kg5 => ?_⟩
      obtain ⟨z, rfl, z0, z1⟩ : ∃ z : Int, x = .int z ∧ 0 ≤ z ∧ z ≤ 10 ^ 30 := by
        simp only [List.mem_cons, List.not_mem_nil, or_false] at hx4
        rcases hx4 with rfl | rfl | rfl | rfl | rfl
        · exact ⟨_, rfl, by decide, by decide⟩
        · exact ⟨_, rfl, by decide, by decide⟩
        · exact ⟨_, rfl, by decide, by decide⟩
        · exact ⟨_, rfl, by decide, by decide⟩
        · exact ⟨_, rfl, by decide, by decide⟩
      obtain ⟨s5, e5, pr5⟩ := pf s4 kg5 e4 pr4
      generalize upd H6 k u5 = H7 at *
      refine ⟨r - wd, z, rfl, rfl, (by show 3 ≤ sizeLine; decide), fun t ht => ?_⟩
      have gt := Gx.new (o := .tup [v1, v2, .int (r - wd + z)]) ht
      have et : (upd H7 t (.tup [v1, v2, .int (r - wd + z)])) t = some (.tup [v1, v2, .int (r - wd + z)]) := upd_same
      have s6 := s5.grow gt
      have e6 := gt _ _ e5
      have pr6 := Paired.mapP pr5 fun _ _ z => z.keep gt.tk
      generalize upd H7 t (.tup [v1, v2, .int (r - wd + z)]) = H8 at *
      refine ⟨F, ys, _, rfl, rfl, e6, line_lt (m := 60) (by rw [← Paired.length pr6]; omega), ?_⟩
      have tk6 : Tk K H H8 := s6.tk hk
      obtain ⟨i1, hi1⟩ := List.mem_iff_getElem?.mp m1
      obtain ⟨i2, hi2⟩ := List.mem_iff_getElem?.mp m2
      obtain ⟨k1, hk1, ky1⟩ := pair_at pr hi1
      obtain ⟨k2, hk2, ky2⟩ := pair_at pr hi2
      have tF : Tk K H8 (upd H8 F (.lst (ys ++ [.ref t]))) := Tk.mut (by rw [e6]; exact True.intro)
      refine ⟨_, _, _, ds ++ [(k1, k2, r - wd + z)], ys ++ [.ref t], rfl, s6.put hF (hk.ne hF), upd_same, pair_snoc (Paired.mapP pr6 fun _ _ z => z.keep tF) (DifV.keep ⟨t, v1, v2, rfl, .inl (.inl et), ky1.keep tk6, ky2.keep tk6⟩ tF), by rw [List.length_append, List.length_singleton, ld], fun d hd => ?_⟩
      rcases List.mem_append.mp hd with hd | hd
      · exact sm d hd
      · rw [List.mem_singleton] at hd
        subst hd
        refine ⟨List.mem_of_getElem? hk1, List.mem_of_getElem? hk2, ?_, ?_⟩ <;> dsimp only <;> omega
    · obtain ⟨x5, x6, x7, ds, ys, rfl, s, eF, prF, ld, sm⟩ := hP
      refine ⟨_, rfl, F, rfl, _, .inl ⟨.inl (.inl eF), fun l hl => ?_⟩⟩
      have g := Gx.new (o := .tup ys) hl
      exact q _ _ ds (s.grow g) ⟨l, ys, rfl, .inl (.inl upd_same), Paired.mapP prF fun _ _ z => z.keep g.tk⟩ (by omega) sm
end
end Mk


set_option Elab.async false
set_option linter.all false
set_option maxRecDepth 100000
set_option maxHeartbeats 400000
/-! data that is short enough to be shown -/
namespace Mk
open PySem PySem.Spec PyProof.Rows L2
structure okK (m n : Nat) (d : PyData) : Prop where
  sh : d.showable = true
  dp : d.depth ≤ n
  lv : d.leavesShort 80 = true
  wt : d.bulk ≤ m
theorem okK.mono {m n m' n' : Nat} {d : PyData} (h : okK m n d) (l : m ≤ m') (l2 : n ≤ n') : okK m' n' d := ⟨h.sh, Nat.le_trans h.dp l2, h.lv, Nat.le_trans h.wt l⟩
theorem okK.len {m n : Nat} {d : PyData} (h : okK m n d) (l : m ≤ 200000) : d.shown.length ≤ sizeLine := by
  have := PyData.shown_le_bulk 80 (by decide) d h.lv
  have w := h.wt
  rw [sizeLine_eq]
  omega
theorem okAll {m n : Nat} : ∀ {ds : List PyData}, (∀ d ∈ ds, okK m n d) → PyData.showableAll ds = true ∧ PyData.depthAll ds ≤ n ∧ PyData.leavesShortAll 80 ds = true ∧ PyData.bulkAll ds ≤ ds.length * (m + 1)
  | [], _ => by simp [PyData.showableAll, PyData.depthAll, PyData.leavesShortAll, PyData.bulkAll]
  | d :: ds, h => by
    obtain ⟨a, b, c, e⟩ := okAll (ds := ds) fun x hx => h x (List.mem_cons_of_mem _ hx)
    have q := h d List.mem_cons_self
    refine ⟨by rw [PyData.showableAll, q.sh, a]; rfl, ?_, by rw [PyData.leavesShortAll, q.lv, c]; rfl, ?_⟩
    · rw [PyData.depthAll]; have := q.dp; omega
    · rw [PyData.bulkAll, List.length_cons, Nat.succ_mul]; have := q.wt; omega
theorem okK_tup {m n l : Nat} {ds : List PyData} (h : ∀ d ∈ ds, okK m n d) (hl : ds.length ≤ l) : okK (l * (m + 1)) (n + 1) (.tuple ds) := by
  obtain ⟨a, b, c, e⟩ := okAll h
  refine ⟨by rw [PyData.showable]; exact a, by rw [PyData.depth]; omega, by rw [PyData.leavesShort]; exact c, ?_⟩
  rw [PyData.bulk]
  exact Nat.le_trans e (Nat.mul_le_mul_right _ hl)
theorem okK_lst {m n l : Nat} {ds : List PyData} (h : ∀ d ∈ ds, okK m n d) (hl : ds.length ≤ l) : okK (l * (m + 1)) (n + 1) (.list ds) := by
  obtain ⟨a, b, c, e⟩ := okAll h
  refine ⟨by rw [PyData.showable]; exact a, by rw [PyData.depth]; omega, by rw [PyData.leavesShort]; exact c, ?_⟩
  rw [PyData.bulk]
  exact Nat.le_trans e (Nat.mul_le_mul_right _ hl)
theorem okKv {m n : Nat} : ∀ {ds : List (PyData × PyData)}, (∀ d ∈ ds, okK m n d.1 ∧ okK m n d.2) → PyData.showableKv ds = true ∧ PyData.depthKv ds ≤ n ∧ PyData.leavesShortKv 80 ds = true ∧ PyData.bulkKv ds ≤ ds.length * (2 * m + 2)
  | [], _ => by simp [PyData.showableKv, PyData.depthKv, PyData.leavesShortKv, PyData.bulkKv]
  | (x, y) :: ds, h => by
    obtain ⟨a, b, c, e⟩ := okKv (ds := ds) fun x hx => h x (List.mem_cons_of_mem _ hx)
    obtain ⟨q, r⟩ := h (x, y) List.mem_cons_self
    refine ⟨by rw [PyData.showableKv, q.sh, r.sh, a]; rfl, ?_, by rw [PyData.leavesShortKv, q.lv, r.lv, c]; rfl, ?_⟩
    · rw [PyData.depthKv]; have := q.dp; have := r.dp; dsimp only at *; omega
    · rw [PyData.bulkKv, List.length_cons, Nat.succ_mul]; have := q.wt; have := r.wt; dsimp only at *; omega
theorem okK_dic {m n l : Nat} {ds : List (PyData × PyData)} (h : ∀ d ∈ ds, okK m n d.1 ∧ okK m n d.2) (hl : ds.length ≤ l) : okK (l * (2 * m + 2)) (n + 1) (.dict ds) := by
  obtain ⟨a, b, c, e⟩ := okKv h
  refine ⟨by rw [PyData.showable]; exact a, by rw [PyData.depth]; omega, by rw [PyData.leavesShort]; exact c, ?_⟩
  rw [PyData.bulk]
  exact Nat.le_trans e (Nat.mul_le_mul_right _ hl)
theorem okK_int {i : Int} (h : i.natAbs < 10 ^ 75) : okK 0 0 (.int i) := by
  refine ⟨?_, by rw [PyData.depth]; exact Nat.le_refl _, ?_, by rw [PyData.bulk]; exact Nat.le_refl _⟩
  · rw [PyData.showable, decide_eq_true_eq]
    by_cases z : i.natAbs = 0
    · rw [z]; decide
    · rw [Nat.log2_lt z]
      have e1 : 10 ^ 75 ≤ 16 ^ 75 := Nat.pow_le_pow_left (by decide) 75
      have e2 : 16 ^ 75 = 2 ^ 300 := by rw [show (16 : Nat) = 2 ^ 4 from rfl, ← Nat.pow_mul]
      have e3 : 2 ^ 300 ≤ 2 ^ 1920 := Nat.pow_le_pow_right (by decide) (by decide)
      exact Nat.lt_of_lt_of_le h (Nat.le_trans e1 (e2 ▸ e3))
  · rw [PyData.leavesShort, decide_eq_true_eq]
    show (Str.ofString (toString i)).length ≤ 80
    have e := int_text_length_le10 (k := 75) (by decide) h
    rw [PySem.ofString_length]
    omega
theorem okK_non : okK 0 0 .none := ⟨by rw [PyData.showable], by rw [PyData.depth]; exact Nat.le_refl _, by rw [PyData.leavesShort], by rw [PyData.bulk]; exact Nat.le_refl _⟩
theorem okK_bl {b : Bool} : okK 0 0 (.bool b) := ⟨by rw [PyData.showable], by rw [PyData.depth]; exact Nat.le_refl _, by rw [PyData.leavesShort], by rw [PyData.bulk]; exact Nat.le_refl _⟩
theorem okK_str {z : Str} {m : Nat} (hl : z.length ≤ m) (h : ∀ c ∈ z.cps.toList, c < 16 ^ 8) : okK m 0 (.str z) := ⟨by rw [PyData.showable], by rw [PyData.depth]; exact Nat.le_refl _, by rw [PyData.leavesShort, List.all_eq_true]; exact fun c hc => decide_eq_true (h c hc), by rw [PyData.bulk]; exact hl⟩
theorem chars_ok (s : String) : ∀ c ∈ (Str.ofString s).cps.toList, c < 16 ^ 8 := by
  rw [Str.ofString_eq_toList]
  intro c hc
  obtain ⟨x, _, rfl⟩ := List.mem_map.mp (show c ∈ s.toList.map Char.toNat by simpa using hc)
  have := x.valid
  have h2 : x.toNat < 0x110000 := by
    rcases this with h | ⟨_, h⟩
    · exact Nat.lt_trans h (by decide)
    · exact h
  exact Nat.lt_trans h2 (by decide)
theorem okK_istr {i : Int} (h : i.natAbs < 10 ^ 12) : okK 13 0 (.str (toString i : String)) := by
  refine okK_str ?_ (chars_ok _)
  have e := int_text_length_le10 (k := 12) (by decide) h
  rw [PySem.ofString_length]
  exact e
theorem okK_pt {k : PK} (h : GoodP k) : okK 3003 1 (ptD k) := by
  have so : ∀ {z : Str}, PyData.strOk z = true → ∀ c ∈ z.cps.toList, c < 16 ^ 8 := fun {z} hz c hc => by
    unfold PyData.strOk at hz
    rw [Array.all_eq_true'] at hz
    have := hz c (by simpa using hc)
    have : c < 0x110000 := by simpa using this
    exact Nat.lt_trans this (by decide)
  rcases h.cases with ⟨z, rfl, hl, hz⟩ | ⟨a, b, c, rfl, l1, ha, l2, hb, c1, c2⟩
  · rw [ptD, keyD]
    exact (okK_str hl (so (placeB_ok hz))).mono (by decide) (by decide)
  · rw [ptD]
    have h3 : ∀ d ∈ [keyD (.inr a), keyD (.inr b), keyD (.inl c)], okK 1000 0 d := by
      intro d hd
      simp only [List.mem_cons, List.not_mem_nil, or_false] at hd
      rcases hd with rfl | rfl | rfl
      · rw [keyD]; exact okK_str l1 (so (nameB_ok ha))
      · rw [keyD]; exact okK_str l2 (so (placeB_ok hb))
      · rw [keyD]; exact (okK_int (by have : c.natAbs < 10 ^ 60 := by omega
                                      exact Nat.lt_trans this (by decide))).mono (by decide) (by decide)
    exact okK_tup h3 (Nat.le_refl _)
end Mk


set_option Elab.async false
set_option linter.all false
set_option maxRecDepth 100000
set_option maxHeartbeats 400000
/-! values near what is judged; what evaluates to a list or a tuple of flat values while only a keg changes -/
namespace Mk
open PySem PySem.Spec PyProof.Rows L2
section
variable {K : PySem.W.Frag} {P : Program} {w : World} {H H' : Hp}
mutual
theorem Dp.gx (g : Gx H H') : ∀ (d : PyData) (v : V), Dp K H v d → Dp K H' v d
  | .none, _, h => by cases h; exact .non
  | .bool b, _, h => by cases h; exact .bl b
  | .int i, _, h => by cases h; exact .int i
  | .str x, _, h => by cases h; exact .str x
  | .list ds, _, h => by
    cases h with
    | lst h1 h2 => exact .lst (g.seqL h1) (DpAll.gx g _ _ h2)
  | .tuple ds, _, h => by
    cases h with
    | tup h1 h2 => exact .tup (g.seqT h1) (DpAll.gx g _ _ h2)
  | .dict _, _, h => by cases h
theorem DpAll.gx (g : Gx H H') : ∀ (ds : List PyData) (vs : List V), DpAll K H vs ds → DpAll K H' vs ds
  | [], _, h => by cases h; exact .nil
  | d :: ds, _, h => by
    cases h with
    | cons h1 h2 => exact .cons (Dp.gx g _ _ h1) (DpAll.gx g _ _ h2)
end
theorem DVal.gx {v : V} {d : PyData} (g : Gx H H') (h : DVal P w K H v d) : DVal P w K H' v d := by
  cases h with
  | flat h f => exact .flat (Dp.gx g _ _ h) f
  | nil h n => exact .nil (g.seqL h) n
  | emp h => exact .emp (g.dicR h)
end
section
variable [Msk]
open Classical in
/-- H without the keg and what is hidden -/
noncomputable def msk (k : Addr) (H : Hp) : Hp := fun a => if a = k ∨ Msk.m a then none else H a
end
section
variable [Msk] {K : PySem.W.Frag} {P : Program} {w : World} {H H' : Hp} {k a : Addr}
theorem msk_sub : Gx (msk k H) H := fun a o h => by
  unfold msk at h
  split at h
  · cases h
  · exact h
theorem msk_at (n : Off k a) : msk k H a = H a := if_neg fun z => z.elim n.1 n.2
theorem KSt.msk (s : KSt k H H') : Gx (msk k H) (msk k H') := fun a o h => by
  by_cases e : a = k ∨ Msk.m a
  · unfold Mk.msk at h; rw [if_pos e] at h; cases h
  · have n : Off k a := ⟨fun z => e (.inl z), fun z => e (.inr z)⟩
    rw [msk_at n] at h ⊢
    exact s.gx a o n.1 h
/-- a value near what is judged: data that can be shown; or a dict of such with points as keys -/
def NV (P : Program) (w : World) (K : PySem.W.Frag) (k : Addr) (H : Hp) (x : V) : Prop :=
  (∃ d, Dp K (msk k H) x d ∧ d.hasDict = false ∧ okK 100000 6 d) ∨ ∃ a kvs ds, x = .ref a ∧ DicR P w K (msk k H) a kvs ∧ (kvs.map (·.1)).Nodup ∧
    Paired (fun (kv : PK × V) (e : PyData) => DVal P w K (msk k H) kv.2 e) kvs ds ∧ okK 100000 6 (.dict ((kvs.map fun kv => ptD kv.1).zip ds))
theorem NV.step {x : V} (s : KSt k H H') (h : NV P w K k H x) : NV P w K k H' x := by
  rcases h with ⟨d, a, b, c⟩ | ⟨a, kvs, ds, e, h1, h2, h3, h4⟩
  · exact .inl ⟨d, Dp.gx s.msk _ _ a, b, c⟩
  · exact .inr ⟨a, kvs, ds, e, s.msk.dicR h1, h2, Paired.mapP h3 fun _ _ z => z.gx s.msk, h4⟩
/-- a flat value that can be shown -/
def leafV : V → Prop
  | .non => True
  | .bl _ => True
  | .int i => i.natAbs < 10 ^ 75
  | .str z => z.length ≤ 20 ∧ ∀ c ∈ z.cps.toList, c < 16 ^ 8
  | _ => False
theorem leaf_int {i : Int} (h : i.natAbs < 10 ^ 75) : leafV (.int i) := h
def leafD : V → PyData
  | .non => .none
  | .bl b => .bool b
  | .int i => .int i
  | .str z => .str z
  | _ => .none
theorem leaf_ok : ∀ {x : V}, leafV x → okK 20 0 (leafD x) ∧ (leafD x).hasDict = false ∧ flatD (leafD x) = true
  | .non, _ => ⟨okK_non.mono (by decide) (by decide), by rw [leafD, PyData.hasDict], by rw [leafD, flatD]⟩
  | .bl b, _ => ⟨okK_bl.mono (by decide) (by decide), by rw [leafD, PyData.hasDict], by rw [leafD, flatD]⟩
  | .int i, h => ⟨(okK_int h).mono (by decide) (by decide), by rw [leafD, PyData.hasDict], by rw [leafD, flatD]⟩
  | .str z, h => ⟨okK_str h.1 h.2, by rw [leafD, PyData.hasDict], by rw [leafD, flatD]⟩
  | .byt _, h => h.elim
  | .flt _, h => h.elim
  | .ref _, h => h.elim
  | .ty _, h => h.elim
theorem leaf_dp : ∀ {x : V}, leafV x → Dp K H x (leafD x)
  | .non, _ => .non
  | .bl b, _ => .bl b
  | .int i, h => .int i
  | .str z, h => .str z
  | .byt _, h => h.elim
  | .flt _, h => h.elim
  | .ref _, h => h.elim
  | .ty _, h => h.elim
theorem leaf_all : ∀ {xs : List V}, (∀ x ∈ xs, leafV x) → DpAll K H xs (xs.map leafD) ∧ PyData.hasDictAll (xs.map leafD) = false
  | [], _ => ⟨.nil, by rw [List.map_nil, PyData.hasDictAll]⟩
  | x :: xs, h => by
    obtain ⟨a, b⟩ := leaf_all (xs := xs) fun y hy => h y (List.mem_cons_of_mem _ hy)
    obtain ⟨_, c, _⟩ := leaf_ok (h x List.mem_cons_self)
    exact ⟨.cons (leaf_dp (h x List.mem_cons_self)) a, by rw [List.map_cons, PyData.hasDictAll, b, c]; rfl⟩
theorem leaf_oks {xs : List V} (h : ∀ x ∈ xs, leafV x) : ∀ d ∈ xs.map leafD, okK 20 0 d := fun d hd => by
  obtain ⟨x, hx, rfl⟩ := List.mem_map.mp hd
  exact (leaf_ok (h x hx)).1
theorem NV.leaf {x : V} (h : leafV x) : NV P w K k H x := .inl ⟨leafD x, leaf_dp h, (leaf_ok h).2.1, (leaf_ok h).1.mono (by decide) (by decide)⟩

/-! ### lists and tuples of flat values -/
/-- a list, not the keg, of such values -/
def SL (k : Addr) (A : V → Prop) (n : Nat) : V → Hp → Prop := fun v H => ∃ a xs, v = .ref a ∧ Off k a ∧ H a = some (.lst xs) ∧ xs.length ≤ n ∧ ∀ x ∈ xs, A x
def SU (k : Addr) (A : V → Prop) (n : Nat) : V → Hp → Prop := fun v H => ∃ a xs, v = .ref a ∧ Off k a ∧ H a = some (.tup xs) ∧ xs.length ≤ n ∧ ∀ x ∈ xs, A x
theorem SL.step {A : V → Prop} {n : Nat} {v : V} (s : KSt k H H') (h : SL k A n v H) : SL k A n v H' := let ⟨a, xs, e, na, ha, r⟩ := h; ⟨a, xs, e, na, s.at na ha, r⟩
theorem SU.step {A : V → Prop} {n : Nat} {v : V} (s : KSt k H H') (h : SU k A n v H) : SU k A n v H' := let ⟨a, xs, e, na, ha, r⟩ := h; ⟨a, xs, e, na, s.at na ha, r⟩
theorem SL.mono {A B : V → Prop} {n m : Nat} {v : V} (h : SL k A n v H) (hl : n ≤ m) (hA : ∀ x, A x → B x) : SL k B m v H := let ⟨a, xs, e, na, ha, l, r⟩ := h; ⟨a, xs, e, na, ha, Nat.le_trans l hl, fun x hx => hA x (r x hx)⟩
theorem SU.mono {A B : V → Prop} {n m : Nat} {v : V} (h : SU k A n v H) (hl : n ≤ m) (hA : ∀ x, A x → B x) : SU k B m v H := let ⟨a, xs, e, na, ha, l, r⟩ := h; ⟨a, xs, e, na, ha, Nat.le_trans l hl, fun x hx => hA x (r x hx)⟩
theorem SL.nv {n : Nat} {v : V} (h : SL k leafV n v H) (hn : n ≤ 1000) : NV P w K k H v := by
  obtain ⟨a, xs, rfl, na, ha, hl, hA⟩ := h
  obtain ⟨d, e⟩ := leaf_all (K := K) (H := msk k H) hA
  exact .inl ⟨.list (xs.map leafD), .lst (.inl (.inl (by rw [msk_at na]; exact ha))) d, by rw [PyData.hasDict]; exact e, (okK_lst (leaf_oks hA) (by rw [List.length_map]; exact Nat.le_trans hl hn)).mono (by decide) (by decide)⟩
theorem SU.nv {n : Nat} {v : V} (h : SU k leafV n v H) (hn : n ≤ 1000) : NV P w K k H v := by
  obtain ⟨a, xs, rfl, na, ha, hl, hA⟩ := h
  obtain ⟨d, e⟩ := leaf_all (K := K) (H := msk k H) hA
  exact .inl ⟨.tuple (xs.map leafD), .tup (.inl (.inl (by rw [msk_at na]; exact ha))) d, by rw [PyData.hasDict]; exact e, (okK_tup (leaf_oks hA) (by rw [List.length_map]; exact Nat.le_trans hl hn)).mono (by decide) (by decide)⟩
/-- te evaluates to what S tells, while the keg may change and all else is kept -/
def EvK (k : Addr) (te : TE) (σ : L2.St) (H : Hp) (S : V → Hp → Prop) : Prop := ∀ H1, KSt k H H1 → ∀ Q : VK, (∀ v H2, KSt k H1 H2 → S v H2 → Q v H2) → te σ H1 Q
theorem EvK.go {te : TE} {σ : L2.St} {S : V → Hp → Prop} (h : EvK k te σ H S) (hk : KeM H k) {Q : VK} (q : ∀ v H2, KSt k H H2 → S v H2 → Q v H2) : te σ H Q := h H (.ini hk) Q q
theorem KSt.new {p : Addr} {o : HO} (hk : KeM H k) (h : H p = none) : KSt k H (upd H p o) := (KSt.ini hk).grow (.new h)
section
variable {σ : L2.St} {te ta tb tl : TE} {A B : V → Prop} {n m : Nat} {S : V → Hp → Prop}
theorem EvK.mono {S' : V → Hp → Prop} (h : EvK k te σ H S) (hs : ∀ v H, S v H → S' v H) : EvK k te σ H S' := fun H1 s1 Q q => h H1 s1 Q fun v H2 s2 p => q v H2 s2 (hs _ _ p)
theorem EvK.later (h : EvK k te σ H S) (s : KSt k H H') : EvK k te σ H' S := fun H1 s1 Q q => h H1 (s.step s1) Q q
theorem evk_var {i : Nat} {v : V} (e : σ[i]? = some (some v)) (h : SL k A n v H) : EvK k (tVar i) σ H (SL k A n) := fun H1 s1 Q q => ⟨v, e, q _ _ (.ini s1.kg) (h.step s1)⟩
theorem evk_sl {t1 t2 : TO} (h : EvK k te σ H (SL k A n)) (h1 : ∀ (H : Hp) (Q : Option Int → Hp → Prop), (∀ o, Q o H) → t1 σ H Q) (h2 : ∀ (H : Hp) (Q : Option Int → Hp → Prop), (∀ o, Q o H) → t2 σ H Q) : EvK k (tSl (rSlL K) te t1 t2) σ H (SL k A n) := fun H1 s1 Q q =>
  h H1 s1 _ fun v H2 s2 ⟨a, xs, e, na, ha, hl, hA⟩ => h1 _ _ fun lo => h2 _ _ fun hi => ⟨a, xs, e, .inl (.inl ha), fun p hp => q _ _ (s2.grow (.new hp)) ⟨p, cutV xs lo hi, rfl, s2.kg.ne hp, upd_same, Nat.le_trans (cutV_length _ _ _) hl, fun x hx => hA x (List.mem_of_mem_drop (List.mem_of_mem_take hx))⟩⟩
theorem evk_cat (h1 : EvK k ta σ H (SL k A n)) (h2 : EvK k tb σ H (SL k A m)) (hz : n + m ≤ 100000) : EvK k (tOp rCat ta tb) σ H (SL k A (n + m)) := fun H1 s1 Q q =>
  h1 H1 s1 _ fun v H2 s2 p2 => h2 H2 (s1.step s2) _ fun u H3 s3 ⟨b, ys, e', nb, hb, ml, mA⟩ => by
    obtain ⟨a, xs, e, na, ha, hl, hA⟩ := p2.step s3
    refine ⟨a, b, xs, ys, e, e', ha, hb, line_le (m := 100000) (by omega), fun p hp => q _ _ ((s2.step s3).grow (.new hp)) ⟨p, xs ++ ys, rfl, s3.kg.ne hp, upd_same, by rw [List.length_append]; omega, fun x hx => ?_⟩⟩
    rcases List.mem_append.mp hx with hx | hx
    · exact hA x hx
    · exact mA x hx
theorem evk_rev (h : EvK k te σ H (SL k A n)) : EvK k (tRevL K te) σ H (SL k A n) := fun H1 s1 Q q =>
  h H1 s1 _ fun v H2 s2 ⟨a, xs, e, na, ha, hl, hA⟩ => ⟨a, xs, e, .inl (.inl ha), fun p hp => q _ _ (s2.grow (.new hp)) ⟨p, xs.reverse, rfl, s2.kg.ne hp, upd_same, by rw [List.length_reverse]; exact hl, fun x hx => hA x (List.mem_reverse.mp hx)⟩⟩
abbrev rTupOf (K : PySem.W.Frag) : List V → Hp → VK → Prop := fun xs H Q => ∃ p ys, xs = [.ref p] ∧ ((SqL K H p ys ∧ ∀ l, H l = none → Q (.ref l) (upd H l (.tup ys))) ∨ (SqT K H p ys ∧ Q (.ref p) H))
theorem evk_tuple (h : EvK k te σ H (SL k A n)) : EvK k (tCB (rTupOf K) (tCons te tNil)) σ H (SU k A n) := fun H1 s1 Q q =>
  h H1 s1 _ fun v H2 s2 ⟨a, xs, e, na, ha, hl, hA⟩ => ⟨a, xs, by rw [e], .inl ⟨.inl (.inl ha), fun l hl' => q _ _ (s2.grow (.new hl')) ⟨l, xs, rfl, s2.kg.ne hl', upd_same, hl, hA⟩⟩⟩
theorem evk_lst1 (h : EvK k te σ H fun v _ => A v) : EvK k (tLst (tCons te tNil)) σ H (SL k A 1) := fun H1 s1 Q q =>
  h H1 s1 _ fun v H2 s2 hv => ⟨(by show 1 ≤ sizeLine; decide), fun p hp => q _ _ (s2.grow (.new hp)) ⟨p, [v], rfl, s2.kg.ne hp, upd_same, Nat.le_refl _, fun x hx => by rw [List.mem_singleton] at hx; rw [hx]; exact hv⟩⟩
theorem evk_c {v : V} (h : A v) : EvK k (tC v) σ H fun v _ => A v := fun H1 s1 Q q => q _ _ (.ini s1.kg) h
theorem evk_v {i : Nat} {v : V} (e : σ[i]? = some (some v)) (h : A v) : EvK k (tVar i) σ H fun v _ => A v := fun H1 s1 Q q => ⟨v, e, q _ _ (.ini s1.kg) h⟩
theorem evk_lc {j : Nat} {vs : List Nat} (h : EvK k tl σ H (SL k A n)) (hn : n ≤ 100000) (hw : ∀ x, wipe ((wipe σ vs).set j (some x)) vs = wipe σ vs)
    (hb : ∀ x, A x → ∀ (H : Hp) (R : VK), (∀ y, B y → R y H) → te ((wipe σ vs).set j (some x)) H R) : EvK k (tLc (iList K tl) (gName j) tYes te vs) σ H (SL k B n) := fun H1 s1 Q q =>
  h H1 s1 _ fun v H2 s2 ⟨a, xs, e, na, ha, hl, hA⟩ => ⟨a, e, ⟨xs, .inl (.inl ha)⟩, fun D hD => lc_it (walk_list (xs := xs)) (PvG H2 D fun i ys _ => ys.length ≤ i ∧ ∀ y ∈ ys, B y) (PvG.ini hD ⟨Nat.le_refl _, nofun⟩) (fun _ _ _ h => .inl (.inl (h.1 _ _ ha))) (fun i x H3 H4 hi hP hY => by
      obtain ⟨rfl, hx⟩ := hY
      obtain ⟨g, ys, e, ly, hB⟩ := hP
      refine ⟨hw x, hb x (hA x (List.mem_of_getElem? hx)) _ _ fun y hy => PvG.put g hD e (line_lt (m := 100000) (by omega)) ⟨by rw [List.length_append, List.length_singleton]; omega, fun z hz => ?_⟩⟩
      rcases List.mem_append.mp hz with hz | hz
      · exact hB z hz
      · rw [List.mem_singleton] at hz; rw [hz]; exact hy)
    (fun H3 ⟨g, ys, e, ly, hB⟩ => q _ _ (s2.grow g) ⟨D, ys, rfl, s2.kg.ne hD, e, by omega, hB⟩)⟩
end
end
end Mk


set_option Elab.async false
set_option linter.all false
set_option maxRecDepth 100000
set_option maxHeartbeats 400000
/-! lists of values near what is judged; draws; ifs -/
namespace Mk
open PySem PySem.Spec PyProof.Rows L2
theorem t_way {i : Nat} {n m : Int} {t u : TS} {D : Ends} {σ : L2.St} {H : Hp} (e : σ[i]? = some (some (.int n))) (h1 : n = m → t { D with nx := u D } σ H) (h2 : n ≠ m → u D σ H) : tSeq (tIfS (tTest (tOp rEq (tVar i) (tC (.int m)))) t tNext) u D σ H := by
  refine ⟨_, e, rfl, _, rfl, ?_⟩
  show if decide (V.int n = V.int m) = true then _ else _
  by_cases c : n = m
  · rw [if_pos (by rw [c]; exact decide_eq_true rfl)]
    exact h1 c
  · rw [if_neg (by simp [c])]
    exact h2 c
theorem t_if {c : TT} {t u : TS} {D : Ends} {σ : L2.St} {H : Hp} (b : Bool) (hc : ∀ R : Bool → Hp → Prop, R b H → c σ H R) (h1 : b = true → t { D with nx := u D } σ H) (h2 : b = false → u D σ H) : tSeq (tIfS c t tNext) u D σ H := by
  refine hc _ ?_
  cases b with
  | true => exact h1 rfl
  | false => exact h2 rfl
theorem t_and {c d : TT} {σ : L2.St} {H : Hp} {a b : Bool} (h1 : ∀ R : Bool → Hp → Prop, R a H → c σ H R) (h2 : ∀ R : Bool → Hp → Prop, R b H → d σ H R) (R : Bool → Hp → Prop) (r : R (a && b) H) : tAnd c d σ H R := by
  refine h1 _ ?_
  cases a with
  | true => exact h2 R r
  | false => exact r
section
variable [Msk] {K : PySem.W.Frag} {P : Program} {w : World} {H H' : Hp} {k a : Addr}
/-! data without lists and dicts stays where tuples stay -/
mutual
theorem Dp.tk (t : Tk K H H') : ∀ (d : PyData) (v : V), flatD d = true → Dp K H v d → Dp K H' v d
  | .none, _, _, h => by cases h; exact .non
  | .bool b, _, _, h => by cases h; exact .bl b
  | .int i, _, _, h => by cases h; exact .int i
  | .str x, _, _, h => by cases h; exact .str x
  | .list ds, _, f, _ => by rw [flatD] at f; cases f
  | .tuple ds, _, f, h => by
    rw [flatD] at f
    cases h with
    | tup h1 h2 => exact .tup (t _ _ h1) (DpAll.tk t _ _ f h2)
  | .dict _, _, f, _ => by rw [flatD] at f; cases f
theorem DpAll.tk (t : Tk K H H') : ∀ (ds : List PyData) (vs : List V), flatDs ds = true → DpAll K H vs ds → DpAll K H' vs ds
  | [], _, _, h => by cases h; exact .nil
  | d :: ds, _, f, h => by
    rw [flatDs, Bool.and_eq_true] at f
    cases h with
    | cons h1 h2 => exact .cons (Dp.tk t _ _ f.1 h1) (DpAll.tk t _ _ f.2 h2)
end
/-- H without a -/
def hid (a : Addr) (H : Hp) : Hp := fun b => if b = a then none else H b
theorem hid_sub : Gx (hid a H) H := fun b o h => by
  unfold hid at h
  split at h
  · cases h
  · exact h
theorem hid_at {b : Addr} (n : b ≠ a) : hid a H b = H b := if_neg n
/-- tuples stay where a list is hidden -/
theorem tk_hid {xs : List V} (h : H a = some (.lst xs)) : Tk K H (hid a H) := fun b ys q => by
  rcases q with (q | ⟨u, q⟩) | q
  · exact .inl (.inl (by rw [hid_at (fun z => by rw [z, h] at q; cases q)]; exact q))
  · exact .inl (.inr ⟨u, by rw [hid_at (fun z => by rw [z, h] at q; cases q)]; exact q⟩)
  · exact .inr q
theorem KeM.lst (h : KeM H k) {b : Addr} (n : ¬ Off k b) : ∃ xs, H b = some (.lst xs) := by
  by_cases e : b = k
  · obtain ⟨x, y, z, q⟩ := h.kg
    rw [e]; exact ⟨_, q⟩
  · exact h.ls b (Classical.byContradiction fun z => n ⟨e, z⟩)
theorem tk_msk (h : KeM H k) : Tk K H (msk k H) := fun b ys q => by
  have off : ∀ {o : HO}, H b = some o → (∀ xs, o ≠ .lst xs) → msk k H b = some o := fun {o} e n => by
    rw [msk_at (Classical.byContradiction fun z => by obtain ⟨xs, e2⟩ := h.lst z; rw [e] at e2; cases e2; exact n xs rfl)]; exact e
  rcases q with (q | ⟨u, q⟩) | q
  · exact .inl (.inl (off q (fun xs z => by cases z)))
  · exact .inl (.inr ⟨u, off q (fun xs z => by cases z)⟩)
  · exact .inr q
/-- flat data that can be shown -/
def FV (K : PySem.W.Frag) (H : Hp) (x : V) : Prop := ∃ d, Dp K H x d ∧ flatD d = true ∧ okK 100000 6 d
theorem FV.nv {x : V} (h : FV K H x) (hk : KeM H k) : NV P w K k H x := by
  obtain ⟨d, a, b, c⟩ := h
  exact .inl ⟨d, Dp.tk (tk_msk hk) _ _ b a, no_dict d b, c⟩
theorem FV.tk {x : V} (h : FV K H x) (t : Tk K H H') : FV K H' x := let ⟨d, a, b, c⟩ := h; ⟨d, Dp.tk t _ _ b a, b, c⟩
theorem flat_all : ∀ {xs : List V}, (∀ x ∈ xs, leafV x) → flatDs (xs.map leafD) = true
  | [], _ => by rw [List.map_nil, flatDs]
  | x :: xs, h => by
    rw [List.map_cons, flatDs, (leaf_ok (h x List.mem_cons_self)).2.2, flat_all fun y hy => h y (List.mem_cons_of_mem _ hy)]; rfl
/-- a list of such values -/
class Stab (k : Addr) (N : Hp → V → Prop) : Prop where
  st : ∀ {H H' : Hp} {x : V}, KSt k H H' → N H x → N H' x
instance : Stab k (NV P w K k) := ⟨fun s h => h.step s⟩
def FL (N : Hp → V → Prop) (k : Addr) (H0 : Hp) (n : Nat) : V → Hp → Prop := fun v H => ∃ a xs Hb, v = .ref a ∧ Off k a ∧ H a = some (.lst xs) ∧ xs.length = n ∧ KSt k H0 Hb ∧ Hb a = none ∧ KSt k Hb H ∧ ∀ x ∈ xs, N Hb x
theorem FL.step {N : Hp → V → Prop} {H0 : Hp} {n : Nat} {v : V} (s : KSt k H H') (h : FL N k H0 n v H) : FL N k H0 n v H' :=
  let ⟨a, xs, Hb, e, na, ha, hl, h0, hb, sb, r⟩ := h
  ⟨a, xs, Hb, e, na, s.at na ha, hl, h0, hb, sb.step s, r⟩
theorem FL.base {N : Hp → V → Prop} {H0 H1 : Hp} {n : Nat} {v : V} (s : KSt k H1 H0) (h : FL N k H0 n v H) : FL N k H1 n v H :=
  let ⟨a, xs, Hb, e, na, ha, hl, h0, hb, sb, r⟩ := h
  ⟨a, xs, Hb, e, na, ha, hl, s.step h0, hb, sb, r⟩
theorem FL.ne {N : Hp → V → Prop} {H0 : Hp} {n : Nat} {v : V} (h : FL N k H0 n v H) {b : Addr} {o : HO} (hb : H0 b = some o) (nb : Off k b) : V.ref b ≠ v := fun z => by
  obtain ⟨a, xs, Hb, e, na, ha, hl, h0, hn, sb, r⟩ := h
  rw [e] at z; cases z
  rw [h0.at nb hb] at hn; cases hn
theorem FL.ne' {N : Hp → V → Prop} {H0 : Hp} {n : Nat} {v : V} (h : FL N k H0 n v H) {b : Addr} {o : HO} (hb : H0 b = some o) (nb : b ≠ k) : V.ref b ≠ v := fun z => by
  obtain ⟨a, xs, Hb, e, na, ha, hl, h0, hn, sb, r⟩ := h
  rw [e] at z; cases z
  rw [h0.at' nb hb] at hn; cases hn
section
variable {σ : L2.St} {te ta tb tl : TE} {n m : Nat} {S : V → Hp → Prop} {N : Hp → V → Prop}
def EvKA (N : Hp → V → Prop) (k : Addr) (ta : TA) (σ : L2.St) (H : Hp) (n : Nat) : Prop := ∀ H1, KSt k H H1 → ∀ Q : List V → Hp → Prop, (∀ vs H2, KSt k H1 H2 → vs.length = n → (∀ x ∈ vs, N H2 x) → Q vs H2) → ta σ H1 Q
theorem evka_nil : EvKA N k tNil σ H 0 := fun H1 s1 Q q => q _ _ (.ini s1.kg) rfl nofun
theorem evka_cons [Stab k N] {tr : TA} (h : EvK k te σ H (fun v H => N H v)) (hr : EvKA N k tr σ H n) : EvKA N k (tCons te tr) σ H (n + 1) := fun H1 s1 Q q =>
  h H1 s1 _ fun v H2 s2 p => hr H2 (s1.step s2) _ fun vs H3 s3 e r => q _ _ (s2.step s3) (by rw [List.length_cons, e]) fun x hx => by
    rcases List.mem_cons.mp hx with rfl | hx
    · exact Stab.st s3 p
    · exact r x hx
theorem evk_lstN {ta : TA} (h : EvKA N k ta σ H n) (hn : n ≤ 1000) : EvK k (tLst ta) σ H (FL N k H n) := fun H1 s1 Q q =>
  h H1 s1 _ fun vs H2 s2 e r => ⟨line_le (m := 1000) (by omega), fun p hp => q _ _ (s2.grow (.new hp)) ⟨p, vs, H2, rfl, s2.kg.ne hp, upd_same, e, s1.step s2, hp, .new s2.kg hp, r⟩⟩
theorem evk_catN [Stab k N] {H0 : Hp} (h1 : EvK k ta σ H (FL N k H0 n)) (h2 : EvK k tb σ H (FL N k H m)) (hz : n + m ≤ 1000) : EvK k (tOp rCat ta tb) σ H (FL N k H (n + m)) := fun H1 s1 Q q =>
  h1 H1 s1 _ fun v H2 s2 p2 => h2 H2 (s1.step s2) _ fun u H3 s3 ⟨b, ys, Hc, e', nb, hb, ml, _, _, sc, mA⟩ => by
    obtain ⟨a, xs, Hb, e, na, ha, hl, _, _, sb, hA⟩ := p2.step s3
    refine ⟨a, b, xs, ys, e, e', ha, hb, line_le (m := 1000) (by omega), fun p hp => q _ _ ((s2.step s3).grow (.new hp)) ⟨p, xs ++ ys, H3, rfl, s3.kg.ne hp, upd_same, by rw [List.length_append, hl, ml], (s1.step s2).step s3, hp, .new s3.kg hp, fun x hx => ?_⟩⟩
    rcases List.mem_append.mp hx with hx | hx
    · exact Stab.st sb (hA x hx)
    · exact Stab.st sc (mA x hx)
theorem evk_varN {H0 : Hp} {i : Nat} {v : V} (e : σ[i]? = some (some v)) (h : FL N k H0 n v H) : EvK k (tVar i) σ H (FL N k H0 n) := fun H1 s1 Q q => ⟨v, e, q _ _ (.ini s1.kg) (h.step s1)⟩
/-- l.append(te), a list of such values -/
theorem t_appN {H0 : Hp} {i : Nat} {v : V} {D : Ends} {u : TS} (e : σ[i]? = some (some v)) (h : FL (NV P w K k) k H0 n v H) (hn : n ≤ 1000) (hk : KeM H k) (ht : EvK k te σ H (fun v H => FV K H v)) (q : ∀ H', KeM H' k → FL (NV P w K k) k H0 (n + 1) v H' → (∀ b o, V.ref b ≠ v → b ≠ k → H b = some o → H' b = some o) → u D σ H') :
    tSeq (tDrop (tBM K "list" rAppend (tVar i) (tCons te tNil))) u D σ H := by
  obtain ⟨a, xs, Hb, rfl, na, ha, hl, h00, hb, sb, r⟩ := h
  refine ⟨_, e, .inl ⟨rfl, _, .inl (.inl ha)⟩, ht.go hk fun y H2 s2 fy => ⟨a, xs, y, rfl, rfl, s2.at na ha, line_lt (m := 1000) (by omega), ?_⟩⟩
  have ha2 := s2.at na ha
  have kg3 : KeM (upd H2 a (.lst (xs ++ [y]))) k := s2.kg.off na
  have tk2 : Tk K H2 (upd H2 a (.lst (xs ++ [y]))) := Tk.mut (by rw [ha2]; exact True.intro)
  have sm : KSt k (hid a (upd H2 a (.lst (xs ++ [y])))) (upd H2 a (.lst (xs ++ [y]))) := ⟨hid_sub.but, kg3⟩
  have kgm : KeM (hid a (upd H2 a (.lst (xs ++ [y])))) k := ⟨let ⟨x, y, z, h⟩ := kg3.kg; ⟨x, y, z, by rw [hid_at na.1.symm]; exact h⟩, fun b hb => by
    rw [hid_at (fun z => na.2 (by rw [← z]; exact hb))]; exact kg3.ls b hb⟩
  have sbm : KSt k Hb (hid a (upd H2 a (.lst (xs ++ [y])))) := ⟨fun b o hbk ho => by
    have nb : b ≠ a := fun z => by rw [z, hb] at ho; cases ho
    rw [hid_at nb, upd_ne nb]
    exact (sb.step s2).gx b o hbk ho, kgm⟩
  refine q _ kg3 ⟨a, xs ++ [y], _, rfl, na, upd_same, by rw [List.length_append, hl]; rfl, h00.step sbm, if_pos rfl, sm, fun x hx => ?_⟩ fun b o hb' hbk ho => ?_
  · rcases List.mem_append.mp hx with hx | hx
    · exact (r x hx).step sbm
    · rw [List.mem_singleton] at hx
      rw [hx]
      exact (fy.tk (tk2.trans (tk_hid upd_same))).nv kgm
  · have nb : b ≠ a := fun z => hb' (by rw [z])
    rw [upd_ne nb]
    exact s2.at' hbk ho
theorem t_asgK {i : Nat} {D : Ends} {u : TS} (h : EvK k te σ H S) (hk : KeM H k) (q : ∀ v H', KSt k H H' → S v H' → u D (σ.set i (some v)) H') : tSeq (tAsg te (gName i)) u D σ H := h.go hk q
theorem evk_leaf {v : V} (h : leafV v) : EvK k (tC v) σ H (fun v H => NV P w K k H v) := fun H1 s1 Q q => q _ _ (.ini s1.kg) (.leaf h)
theorem evk_tup0 : EvK k (tTup tNil) σ H (SU k leafV 0) := fun H1 s1 Q q => ⟨Nat.zero_le _, fun p hp => q _ _ (.new s1.kg hp) ⟨p, [], rfl, s1.kg.ne hp, upd_same, Nat.le_refl _, nofun⟩⟩
theorem evk_tup1 (h : EvK k te σ H (SU k leafV n)) (hn : n ≤ 1000) : EvK k (tTup (tCons te tNil)) σ H (fun v H => FV K H v) := fun H1 s1 Q q =>
  h H1 s1 _ fun v H2 s2 ⟨a, xs, e, na, ha, hl, hA⟩ => ⟨(by show 1 ≤ sizeLine; decide), fun p hp => q _ _ (s2.grow (.new hp)) ⟨.tuple [.tuple (xs.map leafD)], .tup (.inl (.inl (by rw [upd_same, e]))) (.cons (.tup (.inl (.inl (Gx.new hp _ _ ha))) (leaf_all hA).1) .nil),
    by rw [flatD, flatDs, flatD, flat_all hA, flatDs]; rfl, (okK_tup (l := 1) (fun d hd => by
      rw [List.mem_singleton] at hd
      rw [hd]
      exact okK_tup (leaf_oks hA) (by rw [List.length_map]; exact Nat.le_trans hl hn)) (Nat.le_refl _)).mono (by decide) (by decide)⟩⟩
theorem evk_rep3 {A : V → Prop} (h : EvK k te σ H (SU k A n)) (hn : n ≤ 1000) : EvK k (tOp (rRepTE K) te (tC (.int 3))) σ H (SU k A (3 * n)) := fun H1 s1 Q q =>
  h H1 s1 _ fun v H2 s2 ⟨a, xs, e, na, ha, hl, hA⟩ => by
    cases xs with
    | nil => exact .inr ⟨a, 3, e, rfl, .inl (.inl ha), by decide, by decide, q _ _ s2 ⟨a, [], rfl, na, ha, Nat.zero_le _, nofun⟩⟩
    | cons x xs =>
      refine .inl ⟨a, 3, x :: xs, e, rfl, .inl (.inl ha), by simp, by decide, by decide, Nat.le_trans hl hn, fun p hp => q _ _ (s2.grow (.new hp)) ⟨p, _, rfl, s2.kg.ne hp, upd_same, ?_, fun y hy => ?_⟩⟩
      · rw [List.length_flatten]
        simp at hl ⊢
        omega
      · obtain ⟨l, hl', hy⟩ := List.mem_flatten.mp hy
        rw [(List.mem_replicate.mp hl').2] at hy
        exact hA y hy
theorem evk_dic0 : EvK k (tToP P w K tDNewK) σ H (fun v H => NV P w K k H v) := fun H1 s1 Q q p hp => ⟨p, [], rfl, upd_same, fun u hu => by
  rw [upd_upd] at hu ⊢
  obtain ⟨xs, h1, h2⟩ := hu
  have np := s1.kg.ne hp
  refine q _ _ (.new s1.kg hp) (.inr ⟨p, [], [], rfl, ⟨xs, .inl (by rw [msk_at np]; exact h1), by cases h2; exact .nil⟩, List.nodup_nil, .nil, ?_⟩)
  exact (okK_dic (m := 0) (n := 0) (l := 0) (ds := []) nofun (Nat.le_refl _)).mono (by decide) (by decide)⟩
theorem evk_tap {m : Int} (e : σ[0]? = some (some (.ref k))) (ha : ∀ (H : Hp) (R : VK), R (.int m) H → ta σ H R) (m0 : 0 < m) (m1 : m < 1000) : EvK k (tCall spTap [] E0 (tCons (tVar 0) (tCons ta tNil))) σ H (fun v _ => ∃ r, v = .int r ∧ 0 ≤ r ∧ r < m) := fun H1 s1 Q q =>
  ⟨_, e, ha _ _ ⟨k, m, rfl, s1.kg.kg, m0, m1, fun r u r0 r1 kg => q _ _ ((KSt.ini s1.kg).tap kg) ⟨r, rfl, r0, r1⟩⟩⟩
theorem evk_choN [Stab k N] {H0 : Hp} (e : σ[0]? = some (some (.ref k))) (h : EvK k ta σ H (FL N k H0 n)) (n0 : 0 < n) (n1 : n < 1000) : EvK k (tCall spAny [] E0 (tCons (tVar 0) (tCons ta tNil))) σ H (fun v H => N H v) := fun H1 s1 Q q =>
  ⟨_, e, h H1 s1 _ fun v H2 s2 ⟨a, xs, Hb, ev, na, ha, hl, _, hb, sb, r⟩ => ⟨k, a, xs, by rw [ev]; rfl, s2.kg.kg, ha, by omega, by omega, na.1.symm, fun x hx u kg =>
    q _ _ (s2.tap kg) (Stab.st (sb.tap kg) (r x hx))⟩⟩
end
end
end Mk


set_option Elab.async false
set_option linter.all false
set_option maxRecDepth 100000
set_option maxHeartbeats 400000
/-! a value near a row of indices -/
namespace Mk
open PySem PySem.Spec PyProof.Rows L2
def smallI (v : V) : Prop := ∃ n : Int, v = .int n ∧ 0 ≤ n ∧ n < 1000
theorem smallI.leaf {v : V} (h : smallI v) : leafV v := by
  obtain ⟨n, rfl, a, b⟩ := h
  show n.natAbs < 10 ^ 75
  have : n.natAbs < 1000 := by omega
  exact Nat.lt_trans this (by decide)
section
variable {P : Program} {w : World} {K : PySem.W.Frag} {mg : Str → Option Value} {base : Heap}
def spNearR (P : Program) (w : World) (K : PySem.W.Frag) : Sp := fun vs H Q _ => ∃ (mm : Msk) (k a : Addr) (v : V) (ds : List Dif) (ns : List Int), vs = [.ref k, v, .ref a] ∧ KeM H k ∧ DsV K H ds v ∧ ds.length ≤ 60 ∧ SqT K H a (ns.map V.int) ∧ ns.length ≤ 200 ∧ (∀ n ∈ ns, 0 ≤ n ∧ n < 1000) ∧
  ∀ H' x, KSt k H H' → NV P w K k H' x → Q x H'
theorem C__law_near_ring (T : Tops mg) (D : Def K mg "_law_near_ring" s__law_near_ring ["keg", "differences", "found"]) (C__law_tap : Cal P w K mg base "_law_tap" 1 ["keg", "total"] spTap) (C__law_choice : Cal P w K mg base "_law_choice" 2 ["keg", "items"] spAny) : Cal P w K mg base "_law_near_ring" 3 ["keg", "differences", "found"] (spNearR P w K) := by
  refine Cal.of D sc__law_near_ring (fun vs H Q E h => ?_) (fun f cdv A outer s H vs Q E hr h => ?_)
  · obtain ⟨mm, k, a, v, ds, ns, rfl, _⟩ := h; rfl
  · obtain ⟨mm, k, a, v, ds, ns, rfl, hk, ⟨da, dv, rfl, hD, prd⟩, lds, hS, ln, hn, q⟩ := h
    have hu := hu_of hr
    have h0 := hr.units0
    refine ⟨_, (pss_cons (ps_asg (pe_tup (pa_cons (pe_callTy call_list_of (by rfl) T.b_list (by decide +kernel) (pa_cons (pv 2) pa_nil)) (pa_cons (pe_callB call_len_seq (by rfl) T.b_len (by decide +kernel) (pa_cons (pv 1) pa_nil)) pa_nil))) (pg_tup rfl (pgs_cons (pg_name (i := 3) sc__law_near_ring.nd rfl (Or.inl rfl)) (pgs_cons (pg_name (i := 4) sc__law_near_ring.nd rfl (Or.inr rfl)) pgs_nil))))
      (pss_cons (ps_par rfl sc__law_near_ring.nd (i := 5) (j := 6) rfl rfl (by decide) rfl rfl (pa_cons (pe_cal C__law_tap hr (by decide) (by rfl) (pa_cons (pv 0) (pa_cons (pe_op op_add (pe_callB call_len_seq (by rfl) T.b_len (by decide +kernel) (pa_cons (pv 3) pa_nil)) pe_int) pa_nil))) (pa_cons (pe_cal C__law_tap hr (by decide) (by rfl) (pa_cons (pv 0) (pa_cons pe_int pa_nil))) pa_nil)) (by rfl))
      (pss_cons (ps_if (pt_cmpR op_eq (pv 6) pe_int (nomark _)) (pss_one (ps_ret (pe_callTy call_tuple_of (by rfl) T.b_tuple (by decide +kernel) (pa_cons (pe_op op_cat (pe_slice sl_list (pv 3) (po_some (pv 5)) po_none) (pe_slice sl_list (pv 3) po_none (po_some (pv 5)))) pa_nil)))) pss_nil)
      (pss_cons (ps_if (pt_cmpR op_eq (pv 6) pe_int (nomark _)) (pss_one (ps_ret (pe_callTy call_tuple_of (by rfl) T.b_tuple (by decide +kernel) (pa_cons (pe_op op_cat (pv 3) (pv 3)) pa_nil)))) pss_nil)
      (pss_cons (ps_if (pt_cmpR op_eq (pv 6) pe_int (nomark _)) (pss_one (ps_ret (pe_callTy call_tuple_of (by rfl) T.b_tuple (by decide +kernel) (pa_cons (pe_revL (pv 3)) pa_nil)))) pss_nil)
      (pss_cons (ps_if (pt_cmpR op_eq (pv 6) pe_int (nomark _)) (pss_one (ps_ret (pe_callTy call_tuple_of (by rfl) T.b_tuple (by decide +kernel) (pa_cons (pe_op op_cat (pe_slice sl_list (pv 3) po_none (po_some (pv 5))) (pe_slice sl_list (pv 3) (po_some (pe_op op_add (pv 5) pe_int)) po_none)) pa_nil)))) pss_nil)
      (pss_cons (ps_if (PW.pt (pw_and (pt_cmpR op_lt (pv 6) pe_int (nomark _)) (pw_and1 (pt_cmpR op_gt (pv 4) pe_int (nomark _))))) (pss_one (ps_ret (pe_callTy call_tuple_of (by rfl) T.b_tuple (by decide +kernel) (pa_cons (pe_op op_cat (pe_op op_cat (pe_slice sl_list (pv 3) po_none (po_some (pv 5))) (pe_lst (pa_cons (pe_cal C__law_tap hr (by decide) (by rfl) (pa_cons (pv 0) (pa_cons (pv 4) pa_nil))) pa_nil))) (pe_slice sl_list (pv 3) (po_some (pe_op op_sub (pe_op op_add (pv 5) (pv 6)) pe_int)) po_none)) pa_nil)))) pss_nil)
      (pss_cons (ps_set (i := 7) sc__law_near_ring.nd rfl (Or.inl rfl) (pe_lst (pa_cons (pv 3) (pa_cons pe_non (pa_cons (pe_tup pa_nil) (pa_cons (pe_toP pe_dnewK) (pa_cons pe_int (pa_cons pe_str (pa_cons (pe_callTy call_tuple_of (by rfl) T.b_tuple (by decide +kernel) (pa_cons (pe_op op_cat (pv 3) (pe_lst (pa_cons (pv 4) pa_nil))) pa_nil)) (pa_cons (pe_callTy call_tuple_of (by rfl) T.b_tuple (by decide +kernel) (pa_cons (pe_op op_cat (pv 3) (pe_lst (pa_cons (pe_un un_neg pe_int) pa_nil))) pa_nil)) (pa_cons (pe_callTy call_tuple_of (by rfl) T.b_tuple (by decide +kernel) (pa_cons (pe_lc (own := [("one", 8)]) rfl sc__law_near_ring.nd (pi_list (pv 3)) (blkOk_by (own := [("one", 8)]) (N := N__law_near_ring) (sc := defScope s__law_near_ring) (by decide +kernel)) (fun _ _ _ _ _ => (pg_name (i := 8) sc__law_near_ring.nd rfl (Or.inl rfl))) (fun _ _ _ _ _ => pts_nil) (fun _ _ _ _ _ => (pe_op op_sub (pv 8) (pv 4)))) pa_nil)) pa_nil)))))))))))
      (pss_cons (ps_set (i := 7) sc__law_near_ring.nd rfl (Or.inl rfl) (pe_op op_cat (pv 7) (pe_lst (pa_cons (pe_callTy call_tuple_of (by rfl) T.b_tuple (by decide +kernel) (pa_cons (pe_lc (own := [("one", 8)]) rfl sc__law_near_ring.nd (pi_list (pv 3)) (blkOk_by (own := [("one", 8)]) (N := N__law_near_ring) (sc := defScope s__law_near_ring) (by decide +kernel)) (fun _ _ _ _ _ => (pg_name (i := 8) sc__law_near_ring.nd rfl (Or.inl rfl))) (fun _ _ _ _ _ => pts_nil) (fun _ _ _ _ _ => (pe_ifExp (pt_cmpR op_lt (pv 8) pe_int (nomark _)) (pe_callTy call_bool1 (by rfl) T.b_bool (by decide +kernel) (pa_cons (pv 8) pa_nil)) (pv 8)))) pa_nil)) (pa_cons (pe_callTy call_tuple_of (by rfl) T.b_tuple (by decide +kernel) (pa_cons (pe_lc (own := [("one", 8)]) rfl sc__law_near_ring.nd (pi_list (pv 3)) (blkOk_by (own := [("one", 8)]) (N := N__law_near_ring) (sc := defScope s__law_near_ring) (by decide +kernel)) (fun _ _ _ _ _ => (pg_name (i := 8) sc__law_near_ring.nd rfl (Or.inl rfl))) (fun _ _ _ _ _ => pts_nil) (fun _ _ _ _ _ => (pe_callTy call_str_int (by rfl) T.b_str (by decide +kernel) (pa_cons (pv 8) pa_nil)))) pa_nil)) pa_nil)))))
      (pss_cons (ps_expr (pe_bm PySem.F.plainAttrs_list PySem.F.slot_list_append PySem.F.type_list_append mt_append (pv 7) (pa_cons (pe_tup (pa_cons (pe_callTy call_tuple_of (by rfl) T.b_tuple (by decide +kernel) (pa_cons (pv 3) pa_nil)) pa_nil)) pa_nil)))
      (pss_one (ps_ret (pe_cal C__law_choice hr (by decide) (by rfl) (pa_cons (pv 0) (pa_cons (pe_op op_cat (pv 7) (pe_lst (pa_cons (pe_callTy call_tuple_of (by rfl) T.b_tuple (by decide +kernel) (pa_cons (pe_op op_cat (pv 3) (pe_lst (pa_cons pe_non pa_nil))) pa_nil)) (pa_cons (pe_op op_repTE (pe_callTy call_tuple_of (by rfl) T.b_tuple (by decide +kernel) (pa_cons (pv 3) pa_nil)) pe_int) pa_nil)))) pa_nil))))))))))))))), ?_⟩
    have lv : dv.length = ds.length := (Paired.length prd).symm
    refine ⟨_, rfl, a, _, rfl, .inr hS, fun l hl => ⟨_, rfl, da, dv, rfl, .inr ((Gx.new hl).seqT hD), (by show 2 ≤ sizeLine; decide), fun t ht => ⟨t, _, rfl, .inl (.inl upd_same), rfl, ?_⟩⟩⟩
    have nlk := hk.ne hl
    have sl := KSt.new (o := .lst (ns.map V.int)) hk hl
    have s2 := sl.grow (Gx.new (o := .tup [V.ref l, V.int ↑dv.length]) ht)
    have el : (upd (upd H l (.lst (ns.map V.int))) t (.tup [V.ref l, V.int ↑dv.length])) l = some (.lst (ns.map V.int)) := Gx.new ht _ _ upd_same
    generalize upd (upd H l (.lst (ns.map V.int))) t (.tup [V.ref l, V.int ↑dv.length]) = H2 at *
    refine ⟨_, _, rfl, _, _, rfl, rfl, ?_⟩
    refine ⟨_, rfl, _, rfl, l, _, rfl, .inl (.inl (.inl el)), _, _, rfl, rfl, k, _, rfl, s2.kg.kg, by omega, by rw [List.length_map]; omega, fun r1 u1 r10 r11 kg1 => ?_⟩
    have s3 := s2.tap kg1
    have el3 : (upd H2 k u1) l = some (.lst (ns.map V.int)) := by rw [upd_ne nlk.1]; exact el
    generalize upd H2 k u1 = H3 at *
    refine ⟨_, rfl, k, _, rfl, s3.kg.kg, by decide, by decide, fun way u2 w0 w1 kg2 => ⟨_, _, rfl, ?_⟩⟩
    have s4 := s3.tap kg2
    have el4 : (upd H3 k u2) l = some (.lst (ns.map V.int)) := by rw [upd_ne nlk.1]; exact el3
    generalize upd H3 k u2 = H4 at *
    have ret : ∀ {H' x}, KSt k H4 H' → NV P w K k H' x → Q x H' := fun s h => q _ _ (s4.step s) h
    have row : SL k smallI 200 (.ref l) H4 := ⟨l, _, rfl, nlk, el4, by rw [List.length_map]; exact ln, fun x hx => by
      obtain ⟨n, hn', rfl⟩ := List.mem_map.mp hx
      exact ⟨n, rfl, hn n hn'⟩⟩
    clear el el3 ht sl s2 s3 kg1 kg2
    have eR : ∀ {σ : L2.St}, σ[3]? = some (some (.ref l)) → EvK k (tVar 3) σ H4 (SL k smallI 200) := fun h => evk_var h row
    have eG : ∀ {σ : L2.St} {H'}, SL k smallI 200 (.ref l) H' → σ[3]? = some (some (.ref l)) → EvK k (tVar 3) σ H' (SL k smallI 200) := fun s h => evk_var h s
    have p5 : ∀ {σ : L2.St} (H : Hp) (Q : Option Int → Hp → Prop), σ[5]? = some (some (.int r1)) → (∀ o, Q o H) → tPart (tVar 5) σ H Q := fun H Q h q => ⟨_, h, _, rfl, q _⟩
    have pN : ∀ {σ : L2.St} (H : Hp) (Q : Option Int → Hp → Prop), (∀ o, Q o H) → tNoPart σ H Q := fun H Q q => q _
    have fin : ∀ {H' v n}, KSt k H4 H' → SU k smallI n v H' → n ≤ 1000 → Q v H' := fun s h l => ret s ((h.mono (Nat.le_refl _) fun _ => smallI.leaf).nv l)
    refine t_way (i := 6) (n := way) rfl (fun _ => ?_) fun c0 => ?_
    · exact (evk_tuple (evk_cat (evk_sl (eR rfl) (fun H Q => p5 H Q rfl) pN) (evk_sl (eR rfl) pN (fun H Q => p5 H Q rfl)) (by decide))).go s4.kg fun v H5 s5 h => fin s5 h (by decide)
    refine t_way (i := 6) (n := way) rfl (fun _ => ?_) fun c1 => ?_
    · exact (evk_tuple (evk_cat (eR rfl) (eR rfl) (by decide))).go s4.kg fun v H5 s5 h => fin s5 h (by decide)
    refine t_way (i := 6) (n := way) rfl (fun _ => ?_) fun c2 => ?_
    · exact (evk_tuple (evk_rev (eR rfl))).go s4.kg fun v H5 s5 h => fin s5 h (by decide)
    refine t_way (i := 6) (n := way) rfl (fun _ => ?_) fun c3 => ?_
    · exact (evk_tuple (evk_cat (evk_sl (eR rfl) pN (fun H Q => p5 H Q rfl)) (evk_sl (eR rfl) (fun H Q q => ⟨_, rfl, _, _, rfl, rfl, _, rfl, q _⟩) pN) (by decide))).go s4.kg fun v H5 s5 h => fin s5 h (by decide)
    have l60 : (dv.length : Int) ≤ 60 := by omega
    refine t_if (decide (way < 6) && decide ((0 : Int) < dv.length)) (t_and (fun R r => ⟨_, rfl, _, _, rfl, rfl, _, rfl, r⟩) fun R r => ⟨_, rfl, _, _, rfl, rfl, _, rfl, r⟩) (fun cb => ?_) fun _ => ?_
    · rw [Bool.and_eq_true, decide_eq_true_eq, decide_eq_true_eq] at cb
      have tp : EvK k (tCall spTap [] E0 (tCons (tVar 0) (tCons (tVar 4) tNil))) [some (V.ref k), some (V.ref da), some (V.ref a), some (V.ref l), some (V.int dv.length), some (V.int r1), some (V.int way), none, none] H4 (fun v _ => smallI v) :=
        (evk_tap (m := dv.length) rfl (fun H R r => ⟨_, rfl, r⟩) cb.2 (by omega)).mono fun v H ⟨r, e, a, b⟩ => ⟨r, e, a, by omega⟩
      exact (evk_tuple (evk_cat (evk_cat (evk_sl (eR rfl) pN (fun H Q => p5 H Q rfl)) (evk_lst1 tp) (by decide)) (evk_sl (eR rfl) (fun H Q q => ⟨_, rfl, _, rfl, _, _, rfl, rfl, _, _, rfl, rfl, _, rfl, q _⟩) pN) (by decide))).go s4.kg fun v H5 s5 h => fin s5 h (by decide)
    have nvL : ∀ {v H n}, SL k smallI n v H → n ≤ 1000 → NV P w K k H v := fun h l => (h.mono (Nat.le_refl _) fun _ => smallI.leaf).nv l
    have nvU : ∀ {v H n A}, (∀ x, A x → leafV x) → SU k A n v H → n ≤ 1000 → NV P w K k H v := fun hA h l => (h.mono (Nat.le_refl _) hA).nv l
    have many : leafV (.int dv.length) := by
      show Int.natAbs _ < 10 ^ 75
      have : (dv.length : Int).natAbs < 1000 := by omega
      exact Nat.lt_trans this (by decide)
    have eL : ∀ {σ : L2.St}, σ[3]? = some (some (.ref l)) → EvK k (tVar 3) σ H4 (SL k leafV 200) := fun h => (eR h).mono fun v H h => h.mono (Nat.le_refl _) fun _ => smallI.leaf
    have small_sub : ∀ {n : Int}, 0 ≤ n → n < 1000 → leafV (.int (n - dv.length)) := fun {n} a b => by
      show Int.natAbs _ < 10 ^ 75
      have : (n - dv.length : Int).natAbs < 2000 := by omega
      exact Nat.lt_trans this (by decide)
    -- the lists
    have sub : ∀ {x : V}, smallI x → ∀ {σ : L2.St} (H : Hp) (R : VK), σ[8]? = some (some x) → σ[4]? = some (some (.int dv.length)) → (∀ y, leafV y → R y H) → tOp (rI0 fun i j => V.int (i - j)) (tVar 8) (tVar 4) σ H R := fun {x} h σ H R e8 e4 r => by
      obtain ⟨n, rfl, a, b⟩ := h
      exact ⟨_, e8, _, e4, _, _, rfl, rfl, r _ (small_sub a b)⟩
    refine t_asgK (S := FL (NV P w K k) k H4 9) (evk_lstN (evka_cons ((eR rfl).mono fun v H h => nvL h (by decide)) (evka_cons (evk_leaf trivial) (evka_cons (evk_tup0.mono fun v H h => nvU (fun _ h => h) h (by decide)) (evka_cons evk_dic0 (evka_cons (evk_leaf (leaf_int (i := 0) (by decide))) (evka_cons (evk_leaf (v := .str "ring") ⟨by decide, chars_ok "ring"⟩)
      (evka_cons ((evk_tuple (evk_cat (eL rfl) (evk_lst1 (evk_v rfl many)) (by decide))).mono fun v H h => nvU (fun _ h => h) h (by decide))
      (evka_cons ((evk_tuple (evk_cat (eL rfl) (evk_lst1 (A := leafV) (fun H1 s1 Q q => ⟨_, rfl, q _ _ (.ini s1.kg) (leaf_int (i := -1) (by decide))⟩)) (by decide))).mono fun v H h => nvU (fun _ h => h) h (by decide))
      (evka_cons ((evk_tuple (evk_lc (A := smallI) (B := leafV) (eR rfl) (by decide) (fun _ => rfl) fun x hx H R r => sub hx H R rfl rfl r)).mono fun v H h => nvU (fun _ h => h) h (by decide)) evka_nil))))))))) (by decide)) s4.kg fun v5 H5 s5 fl5 => ?_
    have row5 := row.step s5
    refine t_asgK (S := FL (NV P w K k) k H5 11) (evk_catN (evk_varN rfl fl5) (evk_lstN (evka_cons ((evk_tuple (evk_lc (A := smallI) (B := leafV) (eG row5 rfl) (by decide) (fun _ => rfl) fun x ⟨n, e, a, b⟩ H R r => (by
        subst e
        refine ⟨_, rfl, _, _, rfl, rfl, _, rfl, ?_⟩
        show if decide (n < 2) = true then _ else _
        split
        · exact ⟨_, rfl, .inl ⟨_, rfl, r _ trivial⟩⟩
        · exact ⟨_, rfl, r _ (smallI.leaf ⟨n, rfl, a, b⟩)⟩))).mono fun v H h => nvU (fun _ h => h) h (by decide))
      (evka_cons ((evk_tuple (evk_lc (A := smallI) (B := leafV) (eG row5 rfl) (by decide) (fun _ => rfl) fun x ⟨n, e, a, b⟩ H R r => (by
        subst e
        refine ⟨_, rfl, n, rfl, ?_, r _ ⟨?_, chars_ok _⟩⟩
        · have : n.natAbs < 1000 := by omega
          by_cases z : n.natAbs = 0
          · rw [z]; decide
          · rw [Nat.log2_lt z]
            exact Nat.lt_of_lt_of_le this (Nat.le_trans (show 1000 ≤ 2 ^ 10 by decide) (Nat.pow_le_pow_right (by decide) (by decide)))
        · have := int_text_length_le10 (k := 12) (a := n) (by decide) (by have : n.natAbs < 1000 := by omega
                                                                          exact Nat.lt_trans this (by decide))
          rw [PySem.ofString_length]
          omega))).mono fun v H h => nvU (fun _ h => h) h (by decide)) evka_nil)) (by decide)) (by decide)) s5.kg fun v6 H6 s6 fl6 => ?_
    have row6 := row5.step s6
    refine t_appN (i := 7) rfl fl6 (by decide) s6.kg (evk_tup1 (evk_tuple ((eG row6 rfl).mono fun v H h => h.mono (Nat.le_refl _) fun _ => smallI.leaf)) (by decide)) fun H7 kg7 fl7 fr7 => ?_
    have row7 : SL k smallI 200 (.ref l) H7 := by
      obtain ⟨a5, xs5, e5, na5, ha5, r5⟩ := row5
      cases e5
      exact ⟨l, xs5, rfl, na5, fr7 _ _ (fl6.ne ha5 na5) na5.1 (s6.at na5 ha5), r5⟩
    have s7 : KSt k H H7 := ⟨fun b o hb ho => ?_, kg7⟩
    · refine EvK.go (S := fun v H => NV P w K k H v) (evk_choN rfl (evk_catN (evk_varN rfl fl7) (evk_lstN (evka_cons ((evk_tuple (evk_cat ((eG row7 rfl).mono fun v H h => h.mono (B := leafV) (Nat.le_refl _) fun _ => smallI.leaf) (evk_lst1 (evk_c (A := leafV) (v := .non) trivial)) (by decide))).mono fun v H h => nvU (fun _ h => h) h (by decide))
        (evka_cons ((evk_rep3 (evk_tuple (eG row7 rfl)) (by decide)).mono fun v H h => nvU (fun _ => smallI.leaf) h (by decide)) evka_nil)) (by decide)) (by decide)) (by decide) (by decide)) kg7 fun v8 H8 s8 h8 => q _ _ (s7.step s8) h8
    · exact fr7 b o (fl6.ne' ((s4.step s5).at' hb ho) hb) hb (((s4.step s5).step s6).at' hb ho)
end
end Mk


set_option Elab.async false
set_option linter.all false
set_option maxRecDepth 100000
set_option maxHeartbeats 400000
/-! lists of points, lists of pairs of a point and a value, dicts of such pairs -/
namespace Mk
open PySem PySem.Spec PyProof.Rows L2
/-- a list display, its place told -/
def tLstM (t : TA) : TE := fun σ H Q => t σ H fun xs H1 => xs.length ≤ sizeLine ∧ ∀ p, H1 p = none → p ≠ sysModules → Q (.ref p) (upd H1 p (.lst xs))
theorem pe_lstM {X : Cx} {es : List Expr} {t : TA} {pos : Pos} (h : PA X es t) : PE X (.List es pos) (tLstM t) := by
  refine ⟨fun pins s σ H Q I hq => ?_⟩
  refine wpAny_List_spliced (thn (h.run pos pins s σ H _ I hq) fun us s1 ⟨xs, H1, I1, r, z, q⟩ => ⟨by rw [← r.length]; exact z, ?_⟩)
  have hf : H1 s1.heap.objs.size = none := I1.hok.fresh (Nat.le_refl _)
  refine ⟨.ref s1.heap.objs.size, upd H1 s1.heap.objs.size (.lst xs), I1.laid (t' := s1.toks) (fun b u e => Heap.get?_push_of_some _ e) (Nat.le_refl _) ?_, rfl, q _ hf (Nat.ne_of_gt I1.big)⟩
  exact ⟨z, us, 0, r, Heap.get?_push_size _ rfl⟩
section
variable [Msk] {K : PySem.W.Frag} {P : Program} {w : World} {H H' : Hp} {k a : Addr}
/-- a value in such a dict -/
def BV (P : Program) (w : World) (K : PySem.W.Frag) (k : Addr) (H : Hp) (x : V) : Prop := ∃ d, DVal P w K (msk k H) x d ∧ okK 100 2 d
instance : Stab k (BV P w K k) := ⟨fun s ⟨d, a, b⟩ => ⟨d, a.gx s.msk, b⟩⟩
theorem BV.leaf {x : V} (h : leafV x) : BV P w K k H x := ⟨leafD x, .flat (leaf_dp h) (leaf_ok h).2.2, (leaf_ok h).1.mono (by decide) (by decide)⟩
def intB (v : V) : Prop := ∃ n : Int, v = .int n ∧ n.natAbs < 10 ^ 72
theorem intB.leaf {v : V} (h : intB v) : leafV v := by
  obtain ⟨n, rfl, h⟩ := h
  exact Nat.lt_trans h (by decide)
/-- a point as a value -/
def KY (K : PySem.W.Frag) : V → Hp → Prop := fun v H => ∃ q, KyV K H q v ∧ SmallP q
theorem KY.tk {v : V} (h : KY K v H) (t : Tk K H H') : KY K v H' := let ⟨q, a, b⟩ := h; ⟨q, a.keep t, b⟩
/-- a list of points -/
def KL (K : PySem.W.Frag) (k : Addr) (m n : Nat) : V → Hp → Prop := fun v H => ∃ a ks xs, v = .ref a ∧ Off k a ∧ H a = some (.lst xs) ∧ Paired (KyV K H) ks xs ∧ m ≤ xs.length ∧ xs.length ≤ n ∧ ∀ q ∈ ks, SmallP q
theorem KL.step {m n : Nat} {v : V} (s : KSt k H H') (hk : KeM H k) (h : KL K k m n v H) : KL K k m n v H' :=
  let ⟨a, ks, xs, e, na, ha, pr, r⟩ := h
  ⟨a, ks, xs, e, na, s.at na ha, Paired.mapP pr fun _ _ z => z.keep (s.tk hk), r⟩
abbrev PrR (K : PySem.W.Frag) (H : Hp) (p : Addr) (kv : PK × V) : Prop := ∃ y, SqT K H p [y, kv.2] ∧ KyV K H kv.1 y
theorem PrR.tk {p : Addr} {kv : PK × V} (h : PrR K H p kv) (t : Tk K H H') : PrR K H' p kv := let ⟨y, a, b⟩ := h; ⟨y, t _ _ a, b.keep t⟩
/-- a list of pairs -/
def RL (K : PySem.W.Frag) (k : Addr) (B : Hp → V → Prop) (n : Nat) : V → Hp → Prop := fun v H => ∃ a ps kvs, v = .ref a ∧ Off k a ∧ H a = some (.lst (ps.map V.ref)) ∧ Paired (PrR K H) ps kvs ∧ ps.length ≤ n ∧ ∀ kv ∈ kvs, SmallP kv.1 ∧ B H kv.2
variable {B : Hp → V → Prop}
theorem RL.step [Stab k B] {n : Nat} {v : V} (s : KSt k H H') (hk : KeM H k) (h : RL K k B n v H) : RL K k B n v H' :=
  let ⟨a, ps, kvs, e, na, ha, pr, l, r⟩ := h
  ⟨a, ps, kvs, e, na, s.at na ha, Paired.mapP pr fun _ _ z => z.tk (s.tk hk), l, fun kv h => ⟨(r kv h).1, Stab.st s (r kv h).2⟩⟩
theorem RL.mono {C : Hp → V → Prop} {n m : Nat} {v : V} (h : RL K k B n v H) (l : n ≤ m) (hB : ∀ x, B H x → C H x) : RL K k C m v H :=
  let ⟨a, ps, kvs, e, na, ha, pr, l', r⟩ := h
  ⟨a, ps, kvs, e, na, ha, pr, Nat.le_trans l' l, fun kv h => ⟨(r kv h).1, hB _ (r kv h).2⟩⟩
/-- a pair -/
def PT (K : PySem.W.Frag) (k : Addr) (B : Hp → V → Prop) : V → Hp → Prop := fun v H => ∃ p kv, v = .ref p ∧ PrR K H p kv ∧ SmallP kv.1 ∧ B H kv.2
theorem pair_take {α β : Type} {R : α → β → Prop} {as : List α} {bs : List β} (h : Paired R as bs) : ∀ n, Paired R (as.take n) (bs.take n) := by
  induction h with
  | nil => intro n; rw [List.take_nil, List.take_nil]; exact .nil
  | cons r t ih =>
    intro n
    cases n with
    | zero => exact .nil
    | succ n => exact .cons r (ih n)
theorem pair_drop {α β : Type} {R : α → β → Prop} {as : List α} {bs : List β} (h : Paired R as bs) : ∀ n, Paired R (as.drop n) (bs.drop n) := by
  induction h with
  | nil => intro n; rw [List.drop_nil, List.drop_nil]; exact .nil
  | cons r t ih =>
    intro n
    cases n with
    | zero => exact .cons r t
    | succ n => exact ih n
theorem pair_rev {α β : Type} {R : α → β → Prop} {as : List α} {bs : List β} (h : Paired R as bs) : Paired R as.reverse bs.reverse := by
  induction h with
  | nil => exact .nil
  | cons r t ih => rw [List.reverse_cons, List.reverse_cons]; exact pair_app ih (.cons r .nil)
section
variable {σ : L2.St} {te ta tb tl : TE} {n m m' n' : Nat} {S : V → Hp → Prop}
theorem evk_S {i : Nat} {v : V} (e : σ[i]? = some (some v)) (h : S v H) (st : ∀ H', KSt k H H' → S v H → S v H') : EvK k (tVar i) σ H S := fun H1 s1 Q q => ⟨v, e, q _ _ (.ini s1.kg) (st _ s1 h)⟩
theorem evk_varR [Stab k B] {i : Nat} {v : V} (hk : KeM H k) (e : σ[i]? = some (some v)) (h : RL K k B n v H) : EvK k (tVar i) σ H (RL K k B n) := evk_S e h fun _ s h => h.step s hk
theorem evk_varK {i : Nat} {v : V} (hk : KeM H k) (e : σ[i]? = some (some v)) (h : KY K v H) : EvK k (tVar i) σ H (KY K) := evk_S e h fun _ s h => h.tk (s.tk hk)
theorem evk_slR [Stab k B] {t1 t2 : TO} (h : EvK k te σ H (RL K k B n)) (h1 : ∀ (H : Hp) (Q : Option Int → Hp → Prop), (∀ o, Q o H) → t1 σ H Q) (h2 : ∀ (H : Hp) (Q : Option Int → Hp → Prop), (∀ o, Q o H) → t2 σ H Q) : EvK k (tSl (rSlL K) te t1 t2) σ H (RL K k B n) := fun H1 s1 Q q =>
  h H1 s1 _ fun v H2 s2 ⟨a, ps, kvs, e, na, ha, pr, hl, hA⟩ => h1 _ _ fun lo => h2 _ _ fun hi => ⟨a, ps.map V.ref, e, .inl (.inl ha), fun p hp => by
    have g := Gx.new (o := .lst (cutV (ps.map V.ref) lo hi)) hp
    have s3 := KSt.grow (.ini s2.kg) g
    have lm : (ps.map V.ref).length = ps.length := List.length_map _
    have ec : cutV (ps.map V.ref) lo hi = ((ps.drop (HT.sIx ps.length 0 lo)).take (HT.sIx ps.length ps.length hi - HT.sIx ps.length 0 lo)).map V.ref := by
      unfold cutV
      rw [lm, ← List.map_drop, ← List.map_take]
    refine q _ _ (s2.grow g) ⟨p, _, (kvs.drop (HT.sIx ps.length 0 lo)).take (HT.sIx ps.length ps.length hi - HT.sIx ps.length 0 lo), rfl, s2.kg.ne hp, by rw [upd_same, ec], pair_take (pair_drop (Paired.mapP pr fun _ _ z => z.tk g.tk) _) _, ?_, fun kv hkv => ?_⟩
    · rw [List.length_take, List.length_drop]; omega
    · have := hA kv (List.mem_of_mem_drop (List.mem_of_mem_take hkv))
      exact ⟨this.1, Stab.st s3 this.2⟩⟩
theorem evk_revR [Stab k B] (h : EvK k te σ H (RL K k B n)) : EvK k (tRevL K te) σ H (RL K k B n) := fun H1 s1 Q q =>
  h H1 s1 _ fun v H2 s2 ⟨a, ps, kvs, e, na, ha, pr, hl, hA⟩ => ⟨a, ps.map V.ref, e, .inl (.inl ha), fun p hp => by
    have g := Gx.new (o := .lst (ps.map V.ref).reverse) hp
    have s3 := KSt.grow (.ini s2.kg) g
    exact q _ _ (s2.grow g) ⟨p, ps.reverse, kvs.reverse, rfl, s2.kg.ne hp, by rw [upd_same, List.map_reverse], pair_rev (Paired.mapP pr fun _ _ z => z.tk g.tk), by rw [List.length_reverse]; exact hl, fun kv hkv =>
      ⟨(hA kv (List.mem_reverse.mp hkv)).1, Stab.st s3 (hA kv (List.mem_reverse.mp hkv)).2⟩⟩⟩
theorem evk_catR [Stab k B] (h1 : EvK k ta σ H (RL K k B n)) (h2 : EvK k tb σ H (RL K k B m)) (hz : n + m ≤ 100000) : EvK k (tOp rCat ta tb) σ H (RL K k B (n + m)) := fun H1 s1 Q q =>
  h1 H1 s1 _ fun v H2 s2 p2 => h2 H2 (s1.step s2) _ fun u H3 s3 ⟨b, qs, lvs, e', nb, hb, pr', ml, mA⟩ => by
    obtain ⟨a, ps, kvs, e, na, ha, pr, hl, hA⟩ := p2.step s3 s2.kg
    refine ⟨a, b, _, _, e, e', ha, hb, line_le (m := 100000) (by rw [List.length_map, List.length_map]; omega), fun p hp => ?_⟩
    have g := Gx.new (o := .lst (ps.map V.ref ++ qs.map V.ref)) hp
    have s4 := KSt.grow (.ini s3.kg) g
    refine q _ _ ((s2.step s3).grow g) ⟨p, ps ++ qs, kvs ++ lvs, rfl, s3.kg.ne hp, by rw [upd_same, List.map_append], pair_app (Paired.mapP pr fun _ _ z => z.tk g.tk) (Paired.mapP pr' fun _ _ z => z.tk g.tk), by rw [List.length_append]; omega, fun kv hkv => ?_⟩
    rcases List.mem_append.mp hkv with hx | hx
    · exact ⟨(hA kv hx).1, Stab.st s4 (hA kv hx).2⟩
    · exact ⟨(mA kv hx).1, Stab.st s4 (mA kv hx).2⟩
theorem evk_pair [Stab k B] (h1 : EvK k ta σ H (KY K)) (h2 : EvK k tb σ H (fun v H => B H v)) : EvK k (tTup (tCons ta (tCons tb tNil))) σ H (PT K k B) := fun H1 s1 Q q =>
  h1 H1 s1 _ fun v H2 s2 p2 => h2 H2 (s1.step s2) _ fun u H3 s3 p3 => ⟨(by show 2 ≤ sizeLine; decide), fun p hp => by
    obtain ⟨x, kx, gx⟩ := p2.tk (s3.tk s2.kg)
    have g := Gx.new (o := .tup [v, u]) hp
    exact q _ _ ((s2.step s3).grow g) ⟨p, (x, u), rfl, ⟨v, .inl (.inl upd_same), kx.keep g.tk⟩, gx, Stab.st (KSt.grow (.ini s3.kg) g) p3⟩⟩
theorem evk_lst1R [Stab k B] (h : EvK k te σ H (PT K k B)) : EvK k (tLst (tCons te tNil)) σ H (RL K k B 1) := fun H1 s1 Q q =>
  h H1 s1 _ fun v H2 s2 ⟨t, kv, e, pr, gp, bv⟩ => ⟨(by show 1 ≤ sizeLine; decide), fun p hp => by
    have g := Gx.new (o := .lst [v]) hp
    exact q _ _ (s2.grow g) ⟨p, [t], [kv], rfl, s2.kg.ne hp, by rw [upd_same, e]; rfl, .cons (pr.tk g.tk) .nil, Nat.le_refl _, fun x hx => by
      rw [List.mem_singleton] at hx
      rw [hx]
      exact ⟨gp, Stab.st (KSt.grow (.ini s2.kg) g) bv⟩⟩⟩
/-- points -/
theorem evk_strK {z : Str} (h : SmallP (.inl (.inr z))) : EvK k (tC (.str z)) σ H (KY K) := fun H1 s1 Q q => q _ _ (.ini s1.kg) ⟨.inl (.inr z), rfl, h⟩
theorem evk_lstK0 {ta : TA} (h : ∀ H1, KSt k H H1 → ∀ Q : List V → Hp → Prop, (∀ vs ks H2, KSt k H1 H2 → vs.length = n → Paired (KyV K H2) ks vs → (∀ q ∈ ks, SmallP q) → Q vs H2) → ta σ H1 Q) (hn : n ≤ 1000) : EvK k (tLst ta) σ H (KL K k n n) := fun H1 s1 Q q =>
  h H1 s1 _ fun vs ks H2 s2 e pr r => ⟨line_le (m := 1000) (by omega), fun p hp => q _ _ (s2.grow (.new hp)) ⟨p, ks, vs, rfl, s2.kg.ne hp, upd_same, Paired.mapP pr fun _ _ z => z.keep (Gx.new hp).tk, by omega, by omega, r⟩⟩
theorem evk_catK (h1 : EvK k ta σ H (KL K k m n)) (h2 : EvK k tb σ H (KL K k m' n')) (hz : n + n' ≤ 100000) : EvK k (tOp rCat ta tb) σ H (KL K k (m + m') (n + n')) := fun H1 s1 Q q =>
  h1 H1 s1 _ fun v H2 s2 p2 => h2 H2 (s1.step s2) _ fun u H3 s3 ⟨b, js, ys, e', nb, hb, pr', ml, mu, mA⟩ => by
    obtain ⟨a, ks, xs, e, na, ha, pr, hl, hu, hA⟩ := p2.step s3 s2.kg
    refine ⟨a, b, _, _, e, e', ha, hb, line_le (m := 100000) (by omega), fun p hp => ?_⟩
    have g := Gx.new (o := .lst (xs ++ ys)) hp
    refine q _ _ ((s2.step s3).grow g) ⟨p, ks ++ js, xs ++ ys, rfl, s3.kg.ne hp, upd_same, pair_app (Paired.mapP pr fun _ _ z => z.keep g.tk) (Paired.mapP pr' fun _ _ z => z.keep g.tk), by rw [List.length_append]; omega, by rw [List.length_append]; omega, fun x hx => ?_⟩
    rcases List.mem_append.mp hx with hx | hx
    · exact hA x hx
    · exact mA x hx
theorem evk_choK (e : σ[0]? = some (some (.ref k))) (h : EvK k ta σ H (KL K k m n)) (n0 : 0 < m) (n1 : n < 1000) : EvK k (tCall spAny [] E0 (tCons (tVar 0) (tCons ta tNil))) σ H (KY K) := fun H1 s1 Q q =>
  ⟨_, e, h H1 s1 _ fun v H2 s2 ⟨a, ks, xs, ev, na, ha, pr, hl, hu, r⟩ => ⟨k, a, xs, by rw [ev]; rfl, s2.kg.kg, ha, by omega, by omega, na.1.symm, fun x hx u kg => by
    obtain ⟨i, hi⟩ := List.mem_iff_getElem?.mp hx
    obtain ⟨y, hy, ky⟩ := pair_at pr hi
    exact q _ _ (s2.tap kg) ⟨y, ky.keep (Tk.mut s2.kg.mut), r y (List.mem_of_getElem? hy)⟩⟩⟩
/-- dict(rows) -/
theorem mergeP_ok : ∀ (l : List (PK × V)) (acc : List (PK × V)), (acc.map (·.1)).Nodup → ((mergeP acc l).map (·.1)).Nodup ∧ (∀ kv ∈ mergeP acc l, kv ∈ acc ∨ kv ∈ l)
  | [], acc, h => ⟨h, fun kv hkv => .inl hkv⟩
  | p :: l, acc, h => by
    obtain ⟨a, b⟩ := mergeP_ok l (putK acc p.1 p.2) (putK_nodup h)
    refine ⟨a, fun kv hkv => ?_⟩
    rcases b kv hkv with h1 | h1
    · unfold putK at h1
      split at h1
      · obtain ⟨x, hx, e⟩ := List.mem_map.mp h1
        by_cases c : x.1 = p.1
        · rw [if_pos c] at e
          rw [← e]
          right
          rw [show (x.1, p.2) = p by rw [c]]
          exact List.mem_cons_self
        · rw [if_neg c] at e
          rw [← e]; exact .inl hx
      · rcases List.mem_append.mp h1 with h1 | h1
        · exact .inl h1
        · rw [List.mem_singleton] at h1
          rw [h1]; exact .inr List.mem_cons_self
    · exact .inr (List.mem_cons_of_mem _ h1)
end
end
end Mk


set_option Elab.async false
set_option linter.all false
set_option maxRecDepth 100000
set_option maxHeartbeats 400000
/-! dict(rows), rows as a value, the first point, draws of rows -/
namespace Mk
open PySem PySem.Spec PyProof.Rows L2
theorem okK_small {q : PK} (h : SmallP q) : okK 43 1 (ptD q) := by
  have so : ∀ {z : Str}, PyData.strOk z = true → ∀ c ∈ z.cps.toList, c < 16 ^ 8 := fun {z} hz c hc => by
    unfold PyData.strOk at hz
    rw [Array.all_eq_true'] at hz
    have := hz c (by simpa using hc)
    have : c < 0x110000 := by simpa using this
    exact Nat.lt_trans this (by decide)
  obtain ⟨h, hs⟩ := h
  rcases h.cases with ⟨z, rfl, hl, hz⟩ | ⟨a, b, c, rfl, l1, ha, l2, hb, c1, c2⟩
  · rw [ptD, keyD]
    exact (okK_str (show z.length ≤ 12 from hs) (so (placeB_ok hz))).mono (by decide) (by decide)
  · rw [ptD]
    have hs' : a.length + 1 + (b.length + 1 + (1 + 0)) ≤ 12 := by simpa [szP, Nat.add_assoc] using hs
    have h3 : ∀ d ∈ [keyD (.inr a), keyD (.inr b), keyD (.inl c)], okK 12 0 d := by
      intro d hd
      simp only [List.mem_cons, List.not_mem_nil, or_false] at hd
      rcases hd with rfl | rfl | rfl
      · rw [keyD]; exact okK_str (by omega) (so (nameB_ok ha))
      · rw [keyD]; exact okK_str (by omega) (so (placeB_ok hb))
      · rw [keyD]; exact (okK_int (by have : c.natAbs < 10 ^ 60 := by omega
                                      exact Nat.lt_trans this (by decide))).mono (by decide) (by decide)
    exact (okK_tup (l := 3) h3 (Nat.le_refl 3)).mono (by decide) (by decide)
theorem chosen {α β : Type} {R : α → β → Prop} : ∀ {l : List α}, (∀ a ∈ l, ∃ b, R a b) → ∃ bs, Paired R l bs
  | [], _ => ⟨[], .nil⟩
  | a :: l, h => by
    obtain ⟨b, hb⟩ := h a List.mem_cons_self
    obtain ⟨bs, hbs⟩ := chosen (l := l) fun x hx => h x (List.mem_cons_of_mem _ hx)
    exact ⟨b :: bs, .cons hb hbs⟩
theorem zip_mem {α β : Type} {R : α → β → Prop} {as : List α} {bs : List β} (h : Paired R as bs) {x : α × β} (hx : x ∈ as.zip bs) : x.1 ∈ as ∧ R x.1 x.2 := ⟨(List.of_mem_zip hx).1, (zip_fst h).2.2 x hx⟩
section
variable [Msk] {K : PySem.W.Frag} {P : Program} {w : World} {H H' : Hp} {k a : Addr}
theorem DicR.msk {kvs : List (PK × V)} (h : DicR P w K H a kvs) (hk : KeM H k) (na : Off k a) : DicR P w K (msk k H) a kvs := by
  obtain ⟨xs, h1, h2⟩ := h
  refine ⟨xs, ?_, h2.keep (tk_msk hk)⟩
  unfold Rd
  rw [msk_at na]
  exact h1
theorem NV.dic {kvs : List (PK × V)} (h : DicR P w K H a kvs) (hk : KeM H k) (na : Off k a) (nd : (kvs.map (·.1)).Nodup) (hl : kvs.length ≤ 400) (hv : ∀ kv ∈ kvs, SmallP kv.1 ∧ BV P w K k H kv.2) : NV P w K k H (.ref a) := by
  obtain ⟨ds, pr⟩ := chosen (R := fun (kv : PK × V) d => DVal P w K (msk k H) kv.2 d ∧ okK 100 2 d) fun kv hkv => (hv kv hkv).2
  refine .inr ⟨a, kvs, ds, rfl, h.msk hk na, nd, Paired.mapP pr fun _ _ z => z.1, ?_⟩
  have pr2 : Paired (fun (q d : PyData) => okK 100 2 q ∧ okK 100 2 d) (kvs.map fun kv => ptD kv.1) ds := by
    clear h nd hl
    induction pr with
    | nil => exact .nil
    | cons r t ih => exact .cons ⟨(okK_small (hv _ List.mem_cons_self).1).mono (by decide) (by decide), r.2⟩ (ih fun kv hkv => hv kv (List.mem_cons_of_mem _ hkv))
  refine (okK_dic (m := 100) (n := 2) (l := 400) (fun d hd => (zip_mem pr2 hd).2) ?_).mono (by decide) (by decide)
  rw [List.length_zip, List.length_map]
  exact Nat.le_trans (Nat.min_le_left _ _) hl
section
variable {σ : L2.St} {te ta tb tl : TE} {n m m' n' : Nat} {S : V → Hp → Prop} {B : Hp → V → Prop}
theorem t_parK {S2 : V → Hp → Prop} {i j : Nat} {D : Ends} {u : TS} (h : EvK k te σ H S) (hk : KeM H k) (h2 : ∀ v H1, KSt k H H1 → S v H1 → EvK k tb σ H1 S2) (q : ∀ v H1 y H2, KSt k H H1 → S v H1 → KSt k H1 H2 → S2 y H2 → u D ((σ.set i (some v)).set j (some y)) H2) :
    tSeq (tPar i j (tCons te (tCons tb tNil))) u D σ H := h.go hk fun v H1 s1 p1 => (h2 v H1 s1 p1).go s1.kg fun y H2 s2 p2 => ⟨v, y, rfl, q v H1 y H2 s1 p1 s2 p2⟩
theorem evk_lstK1 (h : EvK k te σ H (KY K)) : EvK k (tLst (tCons te tNil)) σ H (KL K k 1 1) := evk_lstK0 (fun H1 s1 Q q => h H1 s1 _ fun v H2 s2 ⟨y, a, b⟩ => q [v] [y] _ s2 rfl (.cons a .nil) fun x hx => by rw [List.mem_singleton] at hx; rw [hx]; exact b) (by decide)
theorem t_retK {D : Ends} {u : TS} (h : EvK k te σ H S) (hk : KeM H k) (q : ∀ v H', KSt k H H' → S v H' → D.rt v H') : tRet te D σ H := h.go hk q
theorem gName_go {i : Nat} {v : V} {Q : L2.St → Hp → Prop} (h : Q (σ.set i (some v)) H) : gName i v σ H Q := h
theorem evk_dictP (h : EvK k te σ H (RL K k (BV P w K k) n)) (hn : n ≤ 400) : EvK k (tCB (rDictP P w K) (tCons te tNil)) σ H (fun v H => NV P w K k H v) := fun H1 s1 Q q =>
  h H1 s1 _ fun v H2 s2 ⟨a, ps, kvs, e, na, ha, pr, hl, hA⟩ => ⟨a, ps, kvs, by rw [e], .inl (.inl ha), pr, fun p u hp hd => by
    have s3 := KSt.new (o := u) s2.kg hp
    obtain ⟨nd, mem⟩ := mergeP_ok kvs [] List.nodup_nil
    refine q _ _ (s2.step s3) (NV.dic hd.r s3.kg (s2.kg.ne hp) nd ?_ fun kv hkv => ?_)
    · have := mergeP_len kvs []
      rw [← Paired.length pr, List.length_nil] at this
      omega
    · rcases mem kv hkv with h | h
      · cases h
      · exact ⟨(hA kv h).1, Stab.st s3 (hA kv h).2⟩⟩
theorem rows_dp {ps : List Addr} {kvs : List (PK × V)} (pr : Paired (PrR K H) ps kvs) (hv : ∀ kv ∈ kvs, SmallP kv.1 ∧ leafV kv.2) : DpAll K H (ps.map V.ref) (kvs.map fun kv => .tuple [ptD kv.1, leafD kv.2]) ∧ flatDs (kvs.map fun kv => PyData.tuple [ptD kv.1, leafD kv.2]) = true ∧
    ∀ d ∈ kvs.map (fun kv => PyData.tuple [ptD kv.1, leafD kv.2]), okK 88 2 d := by
  induction pr with
  | nil => exact ⟨.nil, by rw [List.map_nil, flatDs], nofun⟩
  | @cons p kv ps kvs r t ih =>
    obtain ⟨a, b, c⟩ := ih fun kv hkv => hv kv (List.mem_cons_of_mem _ hkv)
    obtain ⟨y, h1, h2⟩ := r
    obtain ⟨g, l⟩ := hv kv List.mem_cons_self
    refine ⟨.cons (.tup h1 (.cons h2.dp (.cons (leaf_dp l) .nil))) a, ?_, fun d hd => ?_⟩
    · rw [List.map_cons, flatDs, flatD, flatDs, flatDs, flatDs, flat_pt, (leaf_ok l).2.2, b]; rfl
    · rcases List.mem_cons.mp hd with rfl | hd
      · exact okK_tup (m := 43) (n := 1) (l := 2) (fun d hd => by
          simp only [List.mem_cons, List.not_mem_nil, or_false] at hd
          rcases hd with rfl | rfl
          · exact okK_small g
          · exact (leaf_ok l).1.mono (by decide) (by decide)) (Nat.le_refl 2)
      · exact c d hd
theorem RL.nv {v : V} (h : RL K k (fun _ => leafV) n v H) (hk : KeM H k) (hn : n ≤ 400) : NV P w K k H v := by
  obtain ⟨a, ps, kvs, rfl, na, ha, pr, hl, hA⟩ := h
  have pr' : Paired (PrR K (msk k H)) ps kvs := Paired.mapP pr fun _ _ z => z.tk (tk_msk hk)
  obtain ⟨d, f, o⟩ := rows_dp pr' hA
  refine .inl ⟨_, .lst (.inl (.inl (by rw [msk_at na]; exact ha))) d, by rw [PyData.hasDict]; exact no_dicts _ f, (okK_lst (l := 400) o ?_).mono (by decide) (by decide)⟩
  rw [List.length_map, ← Paired.length pr]
  omega
instance {A : V → Prop} : Stab k (fun _ => A) := ⟨fun _ h => h⟩
/-- xs[:1] -/
theorem evk_sl1 (h : EvK k te σ H (KL K k m n)) : EvK k (tSl (rSlL K) te tNoPart (tPart (tC (.int 1)))) σ H (KL K k 0 1) := fun H1 s1 Q q =>
  h H1 s1 _ fun v H2 s2 ⟨a, ks, xs, e, na, ha, pr, hl, hu, hA⟩ => ⟨1, rfl, a, xs, e, .inl (.inl ha), fun p hp => by
    have g := Gx.new (o := .lst (cutV xs none (some 1))) hp
    have ec : cutV xs none (some 1) = xs.take (min 1 xs.length) := by
      unfold cutV
      rw [HT.sIx_none, show HT.sIx xs.length xs.length (some 1) = min 1 xs.length from HT.sIx_nat _ _ 1]
      rfl
    refine q _ _ (s2.grow g) ⟨p, ks.take (min 1 xs.length), xs.take (min 1 xs.length), rfl, s2.kg.ne hp, by rw [upd_same, ec], pair_take (Paired.mapP pr fun _ _ z => z.keep g.tk) _, Nat.zero_le _, by rw [List.length_take]; omega, fun x hx => hA x (List.mem_of_mem_take hx)⟩⟩
theorem evk_sort1 (h : EvK k te σ H (KL K k 0 1)) : EvK k (tCB (rSortD K) (tCons te tNil)) σ H (KL K k 0 1) := fun H1 s1 Q q =>
  h H1 s1 _ fun v H2 s2 ⟨a, ks, xs, e, na, ha, pr, hl, hu, hA⟩ => by
    have lk : ks.length ≤ 1 := by rw [Paired.length pr]; exact hu
    have al : (∀ k ∈ ks, isStrK k = true) ∨ ∀ k ∈ ks, isTupK k = true ∧ GoodP k := by
      rcases ks with _ | ⟨q, _ | ⟨q', ks⟩⟩
      · exact .inl nofun
      · have gq := (hA q List.mem_cons_self).1
        rcases gq.cases with ⟨z, rfl, _⟩ | ⟨x, y, c, rfl, _⟩
        · exact .inl fun x hx => by rw [List.mem_singleton] at hx; rw [hx]; rfl
        · exact .inr fun x hx => by rw [List.mem_singleton] at hx; rw [hx]; exact ⟨rfl, gq⟩
      · simp at lk
    rw [e]
    refine sort_pts ⟨xs, ha, pr⟩ al fun p ks' xs' hp pm pr' => q _ _ (s2.grow (.new hp)) ⟨p, ks', xs', rfl, s2.kg.ne hp, upd_same, pr', Nat.zero_le _, ?_, fun x hx => hA x (pm.mem_iff.mp hx)⟩
    rw [← Paired.length pr', pm.length_eq]; exact lk
/-- [row[0] for row in rows] -/
theorem evk_lcK [Stab k B] {j : Nat} {vs : List Nat} (h : EvK k tl σ H (RL K k B n)) (hn : n ≤ 1000) (hw : ∀ x, wipe ((wipe σ vs).set j (some x)) vs = wipe σ vs)
    (hb : ∀ (p : Addr) (y x : V) (H : Hp) (R : VK), SqT K H p [y, x] → R y H → te ((wipe σ vs).set j (some (.ref p))) H R) : EvK k (tLc (iList K tl) (gName j) tYes te vs) σ H (KL K k 0 n) := fun H1 s1 Q q =>
  h H1 s1 _ fun v H2 s2 ⟨a, ps, kvs, e, na, ha, pr, hl, hA⟩ => ⟨a, e, ⟨_, .inl (.inl ha)⟩, fun D hD => lc_it (walk_list (xs := ps.map V.ref)) (PvG H2 D fun i ys H' => ∃ ks, Paired (KyV K H') ks ys ∧ ys.length ≤ i ∧ ∀ q ∈ ks, SmallP q) (PvG.ini hD ⟨[], .nil, Nat.le_refl _, nofun⟩) (fun _ _ _ h => .inl (.inl (h.1 _ _ ha))) (fun i x H3 H4 hi hP hY => by
      obtain ⟨rfl, hx⟩ := hY
      obtain ⟨g, ys, e, ks, prk, ly, sm⟩ := hP
      rw [List.length_map] at hi
      rw [List.getElem?_map] at hx
      obtain ⟨p, hp, rfl⟩ := Option.map_eq_some_iff.mp hx
      obtain ⟨kv, hkv, y, h1, h2⟩ := pair_at' pr hp
      refine ⟨hw _, hb p y kv.2 _ _ (g.seqT h1) ?_⟩
      have tm : Tk K H4 (upd H4 D (.lst (ys ++ [y]))) := Tk.mut (by rw [e]; exact True.intro)
      refine PvG.put g hD e (line_lt (m := 1000) (by omega)) ⟨ks ++ [kv.1], pair_snoc (Paired.mapP prk fun _ _ z => z.keep tm) ((h2.keep g.tk).keep tm), by rw [List.length_append, List.length_singleton]; omega, fun x hx => ?_⟩
      rcases List.mem_append.mp hx with hx | hx
      · exact sm x hx
      · rw [List.mem_singleton] at hx
        rw [hx]; exact (hA kv (List.mem_of_getElem? hkv)).1)
    (fun H3 ⟨g, ys, e, ks, prk, ly, sm⟩ => q _ _ (s2.grow g) ⟨D, ks, ys, rfl, s2.kg.ne hD, e, prk, Nat.zero_le _, by rw [List.length_map] at ly; omega, sm⟩)⟩
/-- [(one, ..) for one, number in rows] -/
theorem evk_lcR {i j : Nat} {vs : List Nat} {A C : V → Prop} (h : EvK k tl σ H (RL K k (fun _ => A) n)) (hn : n ≤ 1000) (hw : ∀ x y, wipe (((wipe σ vs).set i (some x)).set j (some y)) vs = wipe σ vs)
    (hb : ∀ (y x : V) (H : Hp), KeM H k → KY K y H → A x → EvK k te (((wipe σ vs).set i (some y)).set j (some x)) H (PT K k fun _ => C)) : EvK k (tLc (iList K tl) (gTup K 2 (gCons (gName i) (gCons (gName j) gNil))) tYes te vs) σ H (RL K k (fun _ => C) n) := fun H1 s1 Q q =>
  h H1 s1 _ fun v H2 s2 ⟨a, ps, kvs, e, na, ha, pr, hl, hA⟩ => ⟨a, e, ⟨_, .inl (.inl ha)⟩, fun D hD => lc_it (walk_list (xs := ps.map V.ref)) (fun i H' => KSt k H2 H' ∧ ∃ qs lvs, H' D = some (.lst (qs.map V.ref)) ∧ Paired (PrR K H') qs lvs ∧ qs.length ≤ i ∧ ∀ kv ∈ lvs, SmallP kv.1 ∧ C kv.2)
      ⟨.new s2.kg hD, [], [], upd_same, .nil, Nat.le_refl _, nofun⟩ (fun _ _ _ h => .inl (.inl (h.1.at na ha))) (fun i x H3 H4 hi hP hY => by
      obtain ⟨rfl, hx⟩ := hY
      obtain ⟨s3, qs, lvs, e, prk, ly, sm⟩ := hP
      rw [List.length_map] at hi
      rw [List.getElem?_map] at hx
      obtain ⟨p, hp, rfl⟩ := Option.map_eq_some_iff.mp hx
      obtain ⟨kv, hkv, y, h1, h2⟩ := pair_at' pr hp
      have t3 : Tk K H2 H4 := s3.tk s2.kg
      have nDk := s2.kg.ne hD
      refine ⟨p, [y, kv.2], rfl, t3 _ _ h1, rfl, _, _, rfl, _, _, rfl, rfl, hw _ _, ?_⟩
      obtain ⟨g1, g2⟩ := hA kv (List.mem_of_getElem? hkv)
      refine (hb y kv.2 _ s3.kg ⟨kv.1, h2.keep t3, g1⟩ g2).go s3.kg fun v H5 s5 ⟨p5, kv5, e5, pr5, gp5, c5⟩ => ?_
      have eD := s5.at nDk e
      have tm : Tk K H5 (upd H5 D (.lst (qs.map V.ref ++ [v]))) := Tk.mut (by rw [eD]; exact True.intro)
      refine ⟨_, eD, line_lt (m := 1000) (by rw [List.length_map]; omega), (s3.step s5).put hD nDk, qs ++ [p5], lvs ++ [kv5], by rw [upd_same, e5, List.map_append]; rfl, pair_snoc (Paired.mapP prk fun _ _ z => (z.tk (s5.tk s3.kg)).tk tm) (pr5.tk tm), by rw [List.length_append, List.length_singleton]; omega, fun x hx => ?_⟩
      rcases List.mem_append.mp hx with hx | hx
      · exact sm x hx
      · rw [List.mem_singleton] at hx
        rw [hx]; exact ⟨gp5, c5⟩)
    (fun H3 ⟨s3, qs, lvs, e, prk, ly, sm⟩ => q _ _ (s2.step s3) ⟨D, qs, lvs, rfl, s2.kg.ne hD, e, prk, by rw [List.length_map] at ly; omega, sm⟩)⟩
end
end
end Mk


set_option Elab.async false
set_option linter.all false
set_option maxRecDepth 100000
set_option maxHeartbeats 400000
/-! a value near numbers -/
namespace Mk
open PySem PySem.Spec PyProof.Rows L2
theorem paired_of {α β : Type} {R : α → β → Prop} : ∀ {as : List α} {bs : List β}, as.length = bs.length → (∀ (j : Nat) (a : α) (b : β), as[j]? = some a → bs[j]? = some b → R a b) → Paired R as bs
  | [], [], _, _ => .nil
  | [], _ :: _, h, _ => by cases h
  | _ :: _, [], h, _ => by cases h
  | a :: as, b :: bs, h, r => .cons (r 0 a b rfl rfl) (paired_of (Nat.succ.inj h) fun j x y hx hy => r (j + 1) x y (by simpa using hx) (by simpa using hy))
def smallJ (v : V) : Prop := ∃ n : Int, v = .int n ∧ n.natAbs ≤ 10 ^ 40
section
variable {P : Program} {w : World} {K : PySem.W.Frag} {mg : Str → Option Value} {base : Heap}
theorem DicR.st [Msk] {H H' : Hp} {k a : Addr} {kvs : List (PK × V)} (h : DicR P w K H a kvs) (s : KSt k H H') (hk : KeM H k) (na : Off k a) : DicR P w K H' a kvs := msk_sub.dicR (s.msk.dicR (h.msk hk na))
def spNearN (P : Program) (w : World) (K : PySem.W.Frag) : Sp := fun vs H Q _ => ∃ (mm : Msk) (k a : Addr) (v : V) (ds : List Dif) (N : Num), vs = [.ref k, v, .ref a] ∧ KeM H k ∧ Off k a ∧ DsV K H ds v ∧ GoodDs ds ∧ (∀ q ∈ allPts ds, SmallP q) ∧
  DicR P w K H a (IM N) ∧ N.length ≤ 200 ∧ (∀ p ∈ N, SmallP p.1 ∧ p.2.natAbs < 10 ^ 71) ∧ ∀ H' x, KSt k H H' → NV P w K k H' x → Q x H'
theorem evk_pts [Msk] {H : Hp} {k : Addr} {v : V} {ds : List Dif} {σ : L2.St} {i : Nat} (hk : KeM H k) (e : σ[i]? = some (some v)) (hv : DsV K H ds v) (hg : GoodDs ds) (sm : ∀ q ∈ allPts ds, SmallP q) : EvK k (tCall (spPin K) [] E0 (tCons (tVar i) tNil)) σ H (KL K k 0 200) := fun H1 s1 Q q =>
  ⟨v, e, v, ds, rfl, hv.keep (s1.tk hk), hg, fun H2 p ks g hp plv pts => by
    obtain ⟨xs, hx, pr⟩ := plv
    have lks : ks.length ≤ 121 := by
      refine Nat.le_trans (nodup_len pts.1 (fun k hk => (pts.2 k).mp hk)) ?_
      have := hg.1
      rw [allPts_len]; omega
    exact q _ _ ((KSt.ini s1.kg).grow g) ⟨p, ks, xs, rfl, s1.kg.ne hp, hx, pr, Nat.zero_le _, by rw [← Paired.length pr]; omega, fun y hy => sm y ((pts.2 y).mp hy)⟩⟩
theorem C__law_near_numbers (T : Tops mg) (D : Def K mg "_law_near_numbers" s__law_near_numbers ["keg", "differences", "numbers"]) (C__law_tap : Cal P w K mg base "_law_tap" 1 ["keg", "total"] spTap) (C__law_choice : Cal P w K mg base "_law_choice" 2 ["keg", "items"] spAny) (C__law_points_in : Cal P w K mg base "_law_points_in" 1 ["differences"] (spPin K)) : Cal P w K mg base "_law_near_numbers" 3 ["keg", "differences", "numbers"] (spNearN P w K) := by
  refine Cal.of D sc__law_near_numbers (fun vs H Q E h => ?_) (fun f cdv A outer s H vs Q E hr h => ?_)
  · obtain ⟨mm, k, a, v, ds, N, rfl, _⟩ := h; rfl
  · obtain ⟨mm, k, a, v, ds, N, rfl, hk, na, hv, hg, smp, hN, ln, sN, q⟩ := h
    have hu := hu_of hr
    have h0 := hr.units0
    have h20 := units20 hr
    have h3 := units3 hr
    refine ⟨_, (pss_cons (ps_par rfl sc__law_near_numbers.nd (i := 3) (j := 4) rfl rfl (by decide) rfl rfl (pa_cons (pe_eqv (t' := tItems P w K _) (pe_items rfl (pv 2) (by rfl) T.b_list (by decide +kernel)) rfl) (pa_cons (pe_cal C__law_choice hr (by decide) (by rfl) (pa_cons (pv 0) (pa_cons (pe_op op_cat (pe_callB (call_sortD h20) (by rfl) T.b_sorted (by decide +kernel) (pa_cons (pe_slice sl_list (pe_cal C__law_points_in hr (by decide) (by rfl) (pa_cons (pv 1) pa_nil)) po_none (po_some pe_int)) pa_nil)) (pe_lst (pa_cons pe_str (pa_cons pe_str pa_nil)))) pa_nil))) pa_nil)) (by rfl))
      (pss_cons (ps_par rfl sc__law_near_numbers.nd (i := 4) (j := 5) rfl rfl (by decide) rfl rfl (pa_cons (pe_cal C__law_choice hr (by decide) (by rfl) (pa_cons (pv 0) (pa_cons (pe_op op_cat (pe_lst (pa_cons (pv 4) pa_nil)) (pe_lc (own := [("row", 6)]) rfl sc__law_near_numbers.nd (pi_list (pv 3)) (blkOk_by (own := [("row", 6)]) (N := N__law_near_numbers) (sc := defScope s__law_near_numbers) (by decide +kernel)) (fun _ _ _ _ _ => (pg_name (i := 6) sc__law_near_numbers.nd rfl (Or.inl rfl))) (fun _ _ _ _ _ => pts_nil) (fun _ _ _ _ _ => (pe_ix (ix_tup' (K := K) rfl) (pv 6) pe_int (fun _ _ => rfl))))) pa_nil))) (pa_cons (pe_cal C__law_tap hr (by decide) (by rfl) (pa_cons (pv 0) (pa_cons pe_int pa_nil))) pa_nil)) (by rfl))
      (pss_cons (ps_set (i := 7) sc__law_near_numbers.nd rfl (Or.inl rfl) (pe_dmeth2 PySem.F.plainAttrs_dict PySem.F.slot_dict_get PySem.F.type_dict_get (mt_dget2 hu) (pv 2) (pa_cons (pv 4) (pa_cons pe_int pa_nil))))
      (pss_cons (ps_if (pt_cmpR op_lt (pv 5) pe_int (nomark _)) (pss_one (ps_ret (pe_callTy (call_dictPP' h3 rfl (P := P) (w := w) (K := K) rfl rfl rfl) (by rfl) T.b_dict (by decide +kernel) (pa_cons (pe_op op_cat (pv 3) (pe_lst (pa_cons (pe_tup (pa_cons (pv 4) (pa_cons (pe_op op_add (pv 7) (pe_cal C__law_choice hr (by decide) (by rfl) (pa_cons (pv 0) (pa_cons (pe_lst (pa_cons pe_int (pa_cons (pe_un un_neg pe_int) (pa_cons pe_int (pa_cons (pe_op op_sub pe_int (pe_op op_powB pe_int pe_int)) pa_nil))))) pa_nil)))) pa_nil))) pa_nil))) pa_nil)))) pss_nil)
      (pss_cons (ps_if (pt_cmpR op_eq (pv 5) pe_int (nomark _)) (pss_one (ps_ret (pe_callTy (call_dictPP' h3 rfl (P := P) (w := w) (K := K) rfl rfl rfl) (by rfl) T.b_dict (by decide +kernel) (pa_cons (pe_lc (own := [("one", 8), ("number", 9)]) rfl sc__law_near_numbers.nd (pi_list (pv 3)) (blkOk_by (own := [("one", 8), ("number", 9)]) (N := N__law_near_numbers) (sc := defScope s__law_near_numbers) (by decide +kernel)) (fun _ _ _ _ _ => (pg_tupB (K := K) (n := 2) rfl rfl (pgs_cons (pg_name (i := 8) sc__law_near_numbers.nd rfl (Or.inl rfl) (Or.inr rfl)) (pgs_cons (pg_name (i := 9) sc__law_near_numbers.nd rfl (Or.inl rfl) (Or.inr rfl)) pgs_nil)))) (fun _ _ _ _ _ => pts_nil) (fun _ _ _ _ _ => (pe_tup (pa_cons (pv 8) (pa_cons (pe_op op_add (pv 9) (pe_cal C__law_tap hr (by decide) (by rfl) (pa_cons (pv 0) (pa_cons pe_int pa_nil)))) pa_nil))))) pa_nil)))) pss_nil)
      (pss_cons (ps_if (pt_cmpR op_eq (pv 5) pe_int (nomark _)) (pss_one (ps_ret (pe_callTy (call_dictPP' h3 rfl (P := P) (w := w) (K := K) rfl rfl rfl) (by rfl) T.b_dict (by decide +kernel) (pa_cons (pe_revL (pv 3)) pa_nil)))) pss_nil)
      (pss_cons (ps_set (i := 10) sc__law_near_numbers.nd rfl (Or.inl rfl) (pe_lst (pa_cons pe_non (pa_cons pe_bl (pa_cons pe_str (pa_cons (pe_lstM pa_nil) (pa_cons (pe_tup (pa_cons pe_int pa_nil)) (pa_cons pe_bl (pa_cons pe_str (pa_cons (pe_toP pe_dnewK) pa_nil))))))))))
      (pss_cons (ps_set (i := 11) sc__law_near_numbers.nd rfl (Or.inl rfl) (pe_lst (pa_cons (pe_callTy (call_dictPP' h3 rfl (P := P) (w := w) (K := K) rfl rfl rfl) (by rfl) T.b_dict (by decide +kernel) (pa_cons (pe_op op_cat (pv 3) (pe_lst (pa_cons (pe_tup (pa_cons (pv 4) (pa_cons (pe_cal C__law_choice hr (by decide) (by rfl) (pa_cons (pv 0) (pa_cons (pv 10) pa_nil))) pa_nil))) pa_nil))) pa_nil)) (pa_cons (pe_callTy (call_dictPP' h3 rfl (P := P) (w := w) (K := K) rfl rfl rfl) (by rfl) T.b_dict (by decide +kernel) (pa_cons (pe_slice sl_list (pv 3) (po_some pe_int) po_none) pa_nil)) (pa_cons (pv 3) (pa_cons pe_non (pa_cons (pe_tup pa_nil) (pa_cons (pe_toP pe_dnewK) (pa_cons pe_int (pa_cons pe_str pa_nil))))))))))
      (pss_cons (ps_set (i := 11) sc__law_near_numbers.nd rfl (Or.inl rfl) (pe_op op_cat (pv 11) (pe_lst (pa_cons (pe_callTy (call_dictPP' h3 rfl (P := P) (w := w) (K := K) rfl rfl rfl) (by rfl) T.b_dict (by decide +kernel) (pa_cons (pe_op op_cat (pv 3) (pe_lst (pa_cons (pe_tup (pa_cons pe_str (pa_cons pe_int pa_nil))) pa_nil))) pa_nil)) (pa_cons (pe_callTy (call_dictPP' h3 rfl (P := P) (w := w) (K := K) rfl rfl rfl) (by rfl) T.b_dict (by decide +kernel) (pa_cons (pe_op op_cat (pv 3) (pe_lst (pa_cons (pe_tup (pa_cons (pe_tup (pa_cons pe_str (pa_cons pe_str (pa_cons pe_int pa_nil)))) (pa_cons pe_int pa_nil))) pa_nil))) pa_nil)) (pa_cons (pe_callTy (call_dictPP' h3 rfl (P := P) (w := w) (K := K) rfl rfl rfl) (by rfl) T.b_dict (by decide +kernel) (pa_cons (pe_op op_cat (pv 3) (pe_lst (pa_cons (pe_tup (pa_cons pe_str (pa_cons pe_bl pa_nil))) pa_nil))) pa_nil)) pa_nil))))))
      (pss_one (ps_ret (pe_cal C__law_choice hr (by decide) (by rfl) (pa_cons (pv 0) (pa_cons (pv 11) pa_nil)))))))))))))), ?_⟩
    refine ⟨_, rfl, a, IM N, rfl, hN, fun H1 p ts g1 hp hl lts hpr => ?_⟩
    replace g1 : Gx H H1 := g1
    have s1 := (KSt.ini hk).grow g1
    have npk := hk.ne hp
    have rw1 : RL K k (fun _ => intB) 200 (.ref p) H1 := ⟨p, ts, IM N, rfl, npk, hl, paired_of lts fun j t kv h1 h2 => (by
      obtain ⟨y, h3, h4⟩ := hpr j t kv h1 h2
      exact ⟨y, .inl (.inl h3), h4.keep g1.tk⟩), by rw [lts, VM_len]; exact ln, fun kv hkv => by
        obtain ⟨x, hx, rfl⟩ := List.mem_map.mp hkv
        obtain ⟨a, b⟩ := sN x hx
        exact ⟨a, _, rfl, Nat.lt_of_lt_of_le b (Nat.pow_le_pow_right (by decide) (by decide))⟩⟩
    have hv1 := hv.keep g1.tk
    have hN1 := hN.st s1 hk na
    refine EvK.go (S := KY K) (evk_choK rfl (evk_catK (evk_sort1 (evk_sl1 (evk_pts s1.kg rfl hv1 hg smp))) (evk_lstK0 (n := 2) (fun H1 s1 Q q => ?_) (by decide)) (by decide)) (by decide) (by decide)) s1.kg fun pt H2 s2 kpt => ⟨_, _, rfl, ?_⟩
    · refine q _ [.inl (.inr "i"), .inl (.inr "q")] _ (.ini s1.kg) rfl (.cons rfl (.cons rfl .nil)) fun x hx => ?_
      simp only [List.mem_cons, List.not_mem_nil, or_false] at hx
      rcases hx with rfl | rfl
      · exact ⟨⟨by decide, by decide⟩, by decide⟩
      · exact ⟨⟨by decide, by decide⟩, by decide⟩
    have rw2 := rw1.step s2 s1.kg
    refine t_parK (S := KY K) (S2 := fun v _ => ∃ r, v = .int r ∧ 0 ≤ r ∧ r < 8) (evk_choK rfl (evk_catK (evk_lstK1 (evk_varK s2.kg rfl kpt)) (evk_lcK (evk_varR s2.kg rfl rw2) (by decide) (fun _ => rfl) fun p y x H R hp r => ⟨_, rfl, p, _, 0, y, rfl, rfl, hp, atI_nat (j := 0) rfl, r⟩) (by decide)) (by decide) (by decide)) s2.kg
      (fun v H1 s p => evk_tap rfl (fun H R r => r) (by decide) (by decide)) fun pt3 H3 way' H4 s3 kp3 s4 ⟨way, ew, w0, w1⟩ => ?_
    subst ew
    have kp4 := kp3.tk (s4.tk s3.kg)
    have rw4 := (rw2.step s3 s2.kg).step s4 s3.kg
    have s04 := ((s1.step s2).step s3).step s4
    have hN4 := hN.st s04 hk na
    obtain ⟨qk, hqk, gqk⟩ := id kp4
    have ret : ∀ {v H'}, KSt k H4 H' → NV P w K k H' v → Q v H' := fun s h => q _ _ (s04.step s) h
    refine ⟨_, rfl, ⟨a, _, rfl, hN4⟩, _, rfl, a, _, qk, _, _, rfl, rfl, hN4, hqk, ?_⟩
    obtain ⟨old, eo, bo⟩ : ∃ o : Int, (valV (IM N) qk).getD (.int 0) = .int o ∧ o.natAbs < 10 ^ 71 := by
      rw [VM_look]
      rcases e : lookA N qk with _ | o
      · exact ⟨0, rfl, by decide⟩
      · refine ⟨o, rfl, ?_⟩
        have : ∃ p ∈ N, p.2 = o := by
          unfold lookA at e
          obtain ⟨p, hp, rfl⟩ := Option.map_eq_some_iff.mp e
          exact ⟨p, List.mem_of_find?_eq_some hp, rfl⟩
        obtain ⟨p, hp, rfl⟩ := this
        exact (sN p hp).2
    rw [eo]
    have kg4 := s4.kg
    have toB : ∀ {σ : L2.St} {te : TE} {H n}, EvK k te σ H (RL K k (fun _ => intB) n) → EvK k te σ H (RL K k (BV P w K k) n) := fun h => h.mono fun v H h => h.mono (Nat.le_refl _) fun x hx => BV.leaf (intB.leaf hx)
    have sumB : ∀ {i j : Int}, i.natAbs < 10 ^ 71 → j.natAbs ≤ 10 ^ 40 → intB (.int (i + j)) := fun {i j} a b => ⟨_, rfl, by omega⟩
    have add : ∀ {σ : L2.St} {te : TE} {i : Nat} {o : Int} {H : Hp}, o.natAbs < 10 ^ 71 → σ[i]? = some (some (.int o)) → EvK k te σ H (fun v _ => smallJ v) → EvK k (tOp (rI0 fun i j => V.int (i + j)) (tVar i) te) σ H (fun v _ => intB v) := fun bo e h H1 s1 Q q =>
      ⟨_, e, h H1 s1 _ fun v H2 s2 ⟨n, ev, b⟩ => ⟨_, n, rfl, ev, q _ _ s2 (sumB bo b)⟩⟩
    have jj : ∀ {n : Int} {σ : L2.St} {H : Hp}, n.natAbs ≤ 10 ^ 40 → EvK k (tC (.int n)) σ H (fun v _ => smallJ v) := fun h => evk_c ⟨_, rfl, h⟩
    have tB : ∀ {σ : L2.St} {te : TE} {H}, EvK k te σ H (fun v _ => intB v) → EvK k te σ H (fun v H => BV P w K k H v) := fun h => h.mono fun v H h => BV.leaf (intB.leaf h)
    refine gName_go ?_
    dsimp only
    refine t_if (decide (way < 3)) (fun R r => ⟨_, rfl, _, _, rfl, rfl, _, rfl, r⟩) (fun _ => ?_) fun _ => ?_
    · exact t_retK (u := tNext) (evk_dictP (n := 201) (evk_catR (toB (evk_varR kg4 rfl rw4)) (evk_lst1R (evk_pair (evk_varK kg4 rfl kp4) (tB (add bo rfl (evk_choN (N := fun _ => smallJ) rfl (evk_lstN (evka_cons (jj (by decide)) (evka_cons (fun H1 s1 Q q => ⟨1, rfl, q _ _ (.ini s1.kg) ⟨_, rfl, by decide⟩⟩) (evka_cons (jj (by decide))
        (evka_cons (fun H1 s1 Q q => ⟨10, 40, rfl, rfl, ⟨by decide, by decide⟩, 0, _, rfl, rfl, q _ _ (.ini s1.kg) ⟨_, rfl, by decide⟩⟩) evka_nil)))) (by decide)) (by decide) (by decide)))))) (by decide)) (by decide)) kg4 fun v H s h => ret s h
    refine t_way (i := 5) (n := way) rfl (fun _ => ?_) fun _ => ?_
    · refine t_retK (u := tNext) (evk_dictP (n := 200) ((evk_lcR (A := intB) (C := leafV) (evk_varR kg4 rfl rw4) (by decide) (fun _ _ => rfl) fun y x H5 kg5 ky ⟨n, ex, bn⟩ => evk_pair (evk_varK kg5 rfl ky) fun H1 s1 Q q => ⟨_, rfl, evk_tap (m := 2) rfl (fun H R r => r) (by decide) (by decide) H1 s1 _ fun v H2 s2 ⟨r, er, r0, r1⟩ => ⟨n, r, ex, er, q _ _ s2 (leaf_int ?_)⟩⟩).mono fun v H h => h.mono (Nat.le_refl _) fun x hx => BV.leaf hx) (by decide)) kg4 fun v H s h => ret s h
      omega
    refine t_way (i := 5) (n := way) rfl (fun _ => ?_) fun _ => ?_
    · exact t_retK (u := tNext) (evk_dictP (n := 200) (evk_revR (toB (evk_varR kg4 rfl rw4))) (by decide)) kg4 fun v H s h => ret s h
    have lB : ∀ {v : V} {σ : L2.St} {H : Hp}, leafV v → EvK k (tC v) σ H (fun v H => BV P w K k H v) := fun h => (evk_c (A := leafV) h).mono fun v H h => BV.leaf h
    refine t_asgK (S := FL (BV P w K k) k H4 8) (evk_lstN (N := BV P w K k) (evka_cons (lB (v := .non) trivial) (evka_cons (lB (v := .bl true) trivial) (evka_cons (lB (v := .str "0") ⟨by decide, chars_ok "0"⟩)
      (evka_cons (fun H1 s1 Q q => ⟨Nat.zero_le _, fun p hp np => q _ _ (.new s1.kg hp) ⟨.list [], .nil (.inl (.inl (by rw [msk_at (s1.kg.ne hp)]; exact upd_same))) np, (okK_lst (m := 0) (n := 0) (l := 0) (ds := []) nofun (Nat.le_refl _)).mono (by decide) (by decide)⟩⟩)
      (evka_cons (fun H1 s1 Q q => ⟨(by show 1 ≤ sizeLine; decide), fun p hp => q _ _ (.new s1.kg hp) ⟨.tuple [.int 0], .flat (.tup (.inl (.inl (by rw [msk_at (s1.kg.ne hp)]; exact upd_same))) (.cons (.int 0) .nil)) (by rw [flatD, flatDs, flatD, flatDs]; rfl), (okK_tup (m := 0) (n := 0) (l := 1) (ds := [.int 0]) (fun d hd => by rw [List.mem_singleton] at hd; rw [hd]; exact okK_int (by decide)) (Nat.le_refl _)).mono (by decide) (by decide)⟩⟩)
      (evka_cons (lB (v := .bl false) trivial) (evka_cons (lB (v := .str "") ⟨by decide, chars_ok ""⟩)
      (evka_cons (fun H1 s1 Q q p hp => ⟨p, [], rfl, upd_same, fun u hu => by
        rw [upd_upd] at hu ⊢
        have s2 := KSt.new (o := u) s1.kg hp
        exact q _ _ s2 ⟨.dict [], .emp (hu.r.msk s2.kg (s1.kg.ne hp)), (okK_dic (m := 0) (n := 0) (l := 0) (ds := []) nofun (Nat.le_refl _)).mono (by decide) (by decide)⟩⟩) evka_nil)))))))) (by decide)) kg4 fun v5 H5 s5 fl5 => ?_
    have rw5 := rw4.step s5 kg4
    have kp5 := kp4.tk (s5.tk kg4)
    have kg5 := s5.kg
    have rB : ∀ {σ : L2.St} {H'}, KSt k H5 H' → σ[3]? = some (some (.ref p)) → EvK k (tVar 3) σ H' (RL K k (BV P w K k) 200) := fun s e => toB (evk_varR s.kg e (rw5.step s kg5))
    refine t_asgK (S := FL (NV P w K k) k H5 8) (evk_lstN (N := NV P w K k) (evka_cons (evk_dictP (n := 201) (evk_catR (rB (.ini kg5) rfl) (evk_lst1R (evk_pair (evk_varK kg5 rfl kp5) (evk_choN (N := BV P w K k) rfl (evk_varN rfl fl5) (by decide) (by decide)))) (by decide)) (by decide))
      (evka_cons (evk_dictP (n := 200) (evk_slR (rB (.ini kg5) rfl) (fun H Q q => ⟨1, rfl, q _⟩) (fun H Q q => q _)) (by decide))
      (evka_cons (fun H1 s1 Q q => ⟨_, rfl, q _ _ (.ini s1.kg) (((rw5.step s1 kg5).mono (C := fun _ => leafV) (Nat.le_refl _) fun x hx => intB.leaf hx).nv s1.kg (by decide))⟩)
      (evka_cons (evk_leaf trivial) (evka_cons (evk_tup0.mono fun v H h => h.nv (by decide)) (evka_cons evk_dic0 (evka_cons (evk_leaf (leaf_int (i := 0) (by decide))) (evka_cons (evk_leaf (v := .str "numbers") ⟨by decide, chars_ok "numbers"⟩) evka_nil)))))))) (by decide)) kg5 fun v6 H6 s6 fl6 => ?_
    have kg6 := s6.kg
    have dic1 : ∀ {σ : L2.St} {ta : TE} {v : V}, σ[3]? = some (some (.ref p)) → leafV v → EvK k ta σ H6 (KY K) → EvK k (tCB (rDictP P w K) (tCons (tOp rCat (tVar 3) (tLst (tCons (tTup (tCons ta (tCons (tC v) tNil))) tNil))) tNil)) σ H6 (fun v H => NV P w K k H v) :=
      fun e l h => evk_dictP (n := 201) (evk_catR (rB s6 e) (evk_lst1R (evk_pair h (lB l))) (by decide)) (by decide)
    refine t_asgK (S := FL (NV P w K k) k H6 11) (evk_catN (evk_varN rfl fl6) (evk_lstN (N := NV P w K k) (evka_cons (dic1 rfl (leaf_int (i := 0) (by decide)) (evk_strK ⟨⟨by decide, by decide⟩, by decide⟩)) (evka_cons (dic1 rfl (leaf_int (i := 0) (by decide)) fun H1 s1 Q q => ⟨(by show 3 ≤ sizeLine; decide), fun p hp => q _ _ (.new s1.kg hp) ⟨.inr [.inr "a", .inr "i", .inl 5], ⟨p, rfl, .inl (.inl upd_same)⟩, ⟨by decide, by decide, by decide, by decide, by decide, by decide⟩, by decide⟩⟩)
      (evka_cons (dic1 rfl (v := .bl false) trivial (evk_strK ⟨⟨by decide, by decide⟩, by decide⟩)) evka_nil))) (by decide)) (by decide)) kg6 fun v7 H7 s7 fl7 => ?_
    exact t_retK (u := tNext) (evk_choN (N := NV P w K k) rfl (evk_varN rfl fl7) (by decide) (by decide)) s7.kg fun v H s h => ret (((s5.step s6).step s7).step s) h
end
end Mk


set_option Elab.async false
set_option linter.all false
set_option maxRecDepth 100000
set_option maxHeartbeats 400000
/-! what the law's judge of cases leans on: dicts of numbers, rings, the judging of a value -/
namespace Mk
open PySem PySem.Spec PyProof.Rows L2
section
variable [Msk] {K : PySem.W.Frag} {P : Program} {w : World} {H H' : Hp} {k a : Addr}
/-- a dict of numbers of points -/
def NumD (P : Program) (w : World) (K : PySem.W.Frag) (k : Addr) (H : Hp) (x : V) : Prop := ∃ a N, x = .ref a ∧ Off k a ∧ DicR P w K (msk k H) a (IM N) ∧ (N.map (·.1)).Nodup ∧ N.length ≤ 200 ∧ ∀ p ∈ N, SmallP p.1 ∧ p.2.natAbs < 10 ^ 71
instance : Stab k (NumD P w K k) := ⟨fun s ⟨a, N, e, na, h, r⟩ => ⟨a, N, e, na, s.msk.dicR h, r⟩⟩
theorem NumD.nv {x : V} (h : NumD P w K k H x) (hk : KeM H k) : NV P w K k H x := by
  obtain ⟨a, N, rfl, na, h, nd, l, r⟩ := h
  refine NV.dic (msk_sub.dicR h) hk na (by rw [IM, VM, List.map_map]; exact nd) (by rw [VM_len]; omega) fun kv hkv => ?_
  obtain ⟨p, hp, rfl⟩ := List.mem_map.mp hkv
  exact ⟨(r p hp).1, BV.leaf (Nat.lt_of_lt_of_le (r p hp).2 (Nat.pow_le_pow_right (by decide) (by decide)))⟩
/-- a tuple of indices -/
def TI (K : PySem.W.Frag) (k : Addr) (H : Hp) (x : V) : Prop := ∃ (a : Addr) (ns : List Int), x = .ref a ∧ SqT K (msk k H) a (ns.map V.int) ∧ ns.length ≤ 200 ∧ ∀ n ∈ ns, 0 ≤ n ∧ n < (1000 : Int)
instance : Stab k (TI K k) := ⟨fun s ⟨a, ns, e, h, r⟩ => ⟨a, ns, e, s.msk.seqT h, r⟩⟩
theorem TI.nv {x : V} (h : TI K k H x) : NV P w K k H x := by
  obtain ⟨a, ns, rfl, h, l, r⟩ := h
  have lf : ∀ x ∈ ns.map V.int, leafV x := fun x hx => by
    obtain ⟨n, hn, rfl⟩ := List.mem_map.mp hx
    exact smallI.leaf ⟨n, rfl, r n hn⟩
  obtain ⟨d, e⟩ := leaf_all (K := K) (H := msk k H) lf
  exact .inl ⟨.tuple _, .tup h d, by rw [PyData.hasDict]; exact e, (okK_tup (leaf_oks lf) (l := 200) (by rw [List.length_map, List.length_map]; exact l)).mono (by decide) (by decide)⟩
section
variable {σ : L2.St} {te ta tb tl : TE} {n m m' n' : Nat} {S : V → Hp → Prop} {B : Hp → V → Prop}
def intS (v : V) : Prop := ∃ n : Int, v = .int n ∧ n.natAbs < 10 ^ 71
def ivV : V → Int
  | .int n => n
  | _ => 0
theorem evk_dictI (h : EvK k te σ H (RL K k (fun _ => intS) n)) (hn : n ≤ 200) : EvK k (tCB (rDictP P w K) (tCons te tNil)) σ H (fun v H => NumD P w K k H v) := fun H1 s1 Q q =>
  h H1 s1 _ fun v H2 s2 ⟨a, ps, kvs, e, na, ha, pr, hl, hA⟩ => ⟨a, ps, kvs, by rw [e], .inl (.inl ha), pr, fun p u hp hd => by
    have s3 := KSt.new (o := u) s2.kg hp
    obtain ⟨nd, mem⟩ := mergeP_ok kvs [] List.nodup_nil
    have ml := mergeP_len kvs []
    rw [← Paired.length pr, List.length_nil] at ml
    generalize mergeP [] kvs = kv' at *
    have eI : IM (kv'.map fun kv => (kv.1, ivV kv.2)) = kv' := by
      rw [IM, VM, List.map_map]
      conv => rhs; rw [← List.map_id kv']
      refine List.map_congr_left fun kv hkv => ?_
      rcases mem kv hkv with h | h
      · cases h
      · obtain ⟨z, ez, _⟩ := (hA kv h).2
        show (kv.1, V.int (ivV kv.2)) = kv
        rw [ez, ivV, ← ez]
    refine q _ _ (s2.step s3) ⟨p, kv'.map fun kv => (kv.1, ivV kv.2), rfl, s2.kg.ne hp, by rw [eI]; exact (hd.r).msk s3.kg (s2.kg.ne hp), by rw [List.map_map]; exact nd, by rw [List.length_map]; omega, fun x hx => ?_⟩
    obtain ⟨kv, hkv, rfl⟩ := List.mem_map.mp hx
    rcases mem kv hkv with h | h
    · cases h
    · obtain ⟨z, ez, bz⟩ := (hA kv h).2
      refine ⟨(hA kv h).1, ?_⟩
      show (ivV kv.2).natAbs < _
      rw [ez]
      exact bz⟩
/-- [(point, ..) for point in points] -/
theorem evk_lcKR {j : Nat} {vs : List Nat} {C : V → Prop} (h : EvK k tl σ H (KL K k m n)) (hn : n ≤ 1000) (hw : ∀ x, wipe ((wipe σ vs).set j (some x)) vs = wipe σ vs)
    (hb : ∀ (y : V) (H : Hp), KeM H k → KY K y H → EvK k te ((wipe σ vs).set j (some y)) H (PT K k fun _ => C)) : EvK k (tLc (iList K tl) (gName j) tYes te vs) σ H (RL K k (fun _ => C) n) := fun H1 s1 Q q =>
  h H1 s1 _ fun v H2 s2 ⟨a, ks, xs, e, na, ha, pr, hl, hu, hA⟩ => ⟨a, e, ⟨_, .inl (.inl ha)⟩, fun D hD => lc_it (walk_list (xs := xs)) (fun i H' => KSt k H2 H' ∧ ∃ qs lvs, H' D = some (.lst (qs.map V.ref)) ∧ Paired (PrR K H') qs lvs ∧ qs.length ≤ i ∧ ∀ kv ∈ lvs, SmallP kv.1 ∧ C kv.2)
      ⟨.new s2.kg hD, [], [], upd_same, .nil, Nat.le_refl _, nofun⟩ (fun _ _ _ h => .inl (.inl (h.1.at na ha))) (fun i x H3 H4 hi hP hY => by
      obtain ⟨rfl, hx⟩ := hY
      obtain ⟨s3, qs, lvs, e, prk, ly, sm⟩ := hP
      obtain ⟨y, hy, ky⟩ := pair_at pr hx
      have t3 : Tk K H2 H4 := s3.tk s2.kg
      have nDk := s2.kg.ne hD
      refine ⟨hw _, ?_⟩
      refine (hb x _ s3.kg ⟨y, ky.keep t3, hA y (List.mem_of_getElem? hy)⟩).go s3.kg fun v H5 s5 ⟨p5, kv5, e5, pr5, gp5, c5⟩ => ?_
      have eD := s5.at nDk e
      have tm : Tk K H5 (upd H5 D (.lst (qs.map V.ref ++ [v]))) := Tk.mut (by rw [eD]; exact True.intro)
      refine ⟨_, eD, line_lt (m := 1000) (by rw [List.length_map]; omega), (s3.step s5).put hD nDk, qs ++ [p5], lvs ++ [kv5], by rw [upd_same, e5, List.map_append]; rfl, pair_snoc (Paired.mapP prk fun _ _ z => (z.tk (s5.tk s3.kg)).tk tm) (pr5.tk tm), by rw [List.length_append, List.length_singleton]; omega, fun x hx => ?_⟩
      rcases List.mem_append.mp hx with hx | hx
      · exact sm x hx
      · rw [List.mem_singleton] at hx
        rw [hx]; exact ⟨gp5, c5⟩)
    (fun H3 ⟨s3, qs, lvs, e, prk, ly, sm⟩ => q _ _ (s2.step s3) ⟨D, qs, lvs, rfl, s2.kg.ne hD, e, prk, by omega, sm⟩)⟩
theorem evk_fit {v : V} {ds : List Dif} {i : Nat} (hk : KeM H k) (e : σ[i]? = some (some v)) (hv : DsV K H ds v) (hg : GoodDs ds) (sm : ∀ q ∈ allPts ds, SmallP q) : EvK k (tCall (spFit P w K) [] E0 (tCons (tVar i) tNil)) σ H (fun v H => v = .non ∨ NumD P w K k H v) := fun H1 s1 Q q =>
  ⟨v, e, v, ds, rfl, hv.keep (s1.tk hk), hg, fun _ H2 g => q _ _ ((KSt.ini s1.kg).grow g) (.inl rfl), fun _ H2 p ks f g hp pts hd _ _ hb => by
    have s2 := (KSt.ini s1.kg).grow g
    have lks : ks.length ≤ 121 := by
      refine Nat.le_trans (nodup_len pts.1 (fun k hk => (pts.2 k).mp hk)) ?_
      have := hg.1
      rw [allPts_len]; omega
    refine q _ _ s2 (.inr ⟨p, _, rfl, s1.kg.ne hp, hd.r.msk s2.kg (s1.kg.ne hp), by rw [List.map_map, show ((fun x : PK × Int => x.1) ∘ fun k => (k, f k)) = id from rfl, List.map_id]; exact pts.1, by rw [List.length_map]; omega, fun x hx => ?_⟩)
    obtain ⟨y, hy, rfl⟩ := List.mem_map.mp hx
    refine ⟨sm y ((pts.2 y).mp hy), ?_⟩
    have := hb y
    show (f y).natAbs < 10 ^ 71
    omega⟩
theorem evk_ring {v : V} {ds : List Dif} {i : Nat} (hk : KeM H k) (e : σ[i]? = some (some v)) (hv : DsV K H ds v) (hg : GoodDs ds) : EvK k (tCall (spRof K) [] E0 (tCons (tVar i) tNil)) σ H (fun v H => v = .non ∨ TI K k H v) := fun H1 s1 Q q =>
  ⟨v, e, v, ds, rfl, hv.keep (s1.tk hk), hg, fun _ H2 g => q _ _ ((KSt.ini s1.kg).grow g) (.inl rfl), fun _ H2 p rs g hp hs l1 l2 => by
    have s2 := (KSt.ini s1.kg).grow g
    refine q _ _ s2 (.inr ⟨p, rs, rfl, tk_msk s2.kg _ _ hs, l1, fun n hn => ?_⟩)
    have := l2 n hn
    have := hg.1
    omega⟩
theorem evk_walk {v : V} {ds : List Dif} {i : Nat} (hk : KeM H k) (e0 : σ[0]? = some (some (.ref k))) (e : σ[i]? = some (some v)) (hv : DsV K H ds v) (hg : GoodDs ds) : EvK k (tCall (spWalk K) [] E0 (tCons (tVar 0) (tCons (tVar i) tNil))) σ H (fun v H => TI K k H v) := fun H1 s1 Q q =>
  ⟨_, e0, _, e, k, v, ds, rfl, s1.kg.kg, hv.keep (s1.tk hk), hg, fun H2 a ns g kg hs l1 l2 => by
    have s2 : KSt k H1 H2 := ⟨g, ⟨kg, fun b hb => by
      by_cases eb : b = k
      · obtain ⟨x, y, z, q⟩ := kg
        rw [eb]; exact ⟨_, q⟩
      · obtain ⟨xs, hx⟩ := s1.kg.ls b hb
        exact ⟨xs, g _ _ eb hx⟩⟩⟩
    refine q _ _ s2 ⟨a, ns, rfl, tk_msk s2.kg _ _ hs, by omega, fun n hn => ?_⟩
    have := l2 n hn
    have := hg.1
    omega⟩
end
end
end Mk


set_option Elab.async false
set_option linter.all false
set_option maxRecDepth 100000
set_option maxHeartbeats 400000
/-! the judging of a list of values -/
namespace Mk
open PySem PySem.Spec PyProof.Rows L2
section
variable {K : PySem.W.Frag} {P : Program} {w : World} {H H' : Hp} {k a : Addr}
theorem Dp.ty : ∀ {d : PyData} {x : V}, Dp K H x d → ∃ t, TyA P w K H x t ∧ kitB t "dict" = some false
  | .none, _, h => by cases h; exact ⟨_, .non, rfl⟩
  | .bool b, _, h => by cases h; exact ⟨_, .bl b, rfl⟩
  | .int i, _, h => by cases h; exact ⟨_, .int i, rfl⟩
  | .str z, _, h => by cases h; exact ⟨_, .str z, rfl⟩
  | .list ds, _, h => by
    cases h with
    | lst h1 h2 => exact ⟨_, .lst h1, rfl⟩
  | .tuple ds, _, h => by
    cases h with
    | tup h1 h2 => exact ⟨_, .tup h1, rfl⟩
  | .dict _, _, h => by cases h
theorem DpAll.ty : ∀ {ds : List PyData} {xs : List V}, DpAll K H xs ds → ∀ x ∈ xs, ∃ t, TyA P w K H x t
  | [], _, h => by cases h; exact nofun
  | d :: ds, _, h => by
    cases h with
    | cons h1 h2 =>
      intro x hx
      rcases List.mem_cons.mp hx with rfl | hx
      · obtain ⟨t, a, _⟩ := Dp.ty (P := P) (w := w) h1
        exact ⟨t, a⟩
      · exact DpAll.ty h2 x hx
theorem DpAll.len : ∀ {ds : List PyData} {xs : List V}, DpAll K H xs ds → xs.length = ds.length
  | [], _, h => by cases h; rfl
  | d :: ds, _, h => by
    cases h with
    | cons h1 h2 => rw [List.length_cons, List.length_cons, DpAll.len h2]
theorem DVal.ty {v : V} {d : PyData} (h : DVal P w K H v d) : ∃ t, TyA P w K H v t := by
  cases h with
  | flat h f => obtain ⟨t, a, _⟩ := Dp.ty (P := P) (w := w) h; exact ⟨t, a⟩
  | nil h n => exact ⟨_, .lst h⟩
  | emp h => exact ⟨_, .dic h⟩
theorem bulk_len : ∀ ds : List PyData, ds.length ≤ PyData.bulkAll ds
  | [] => Nat.zero_le _
  | d :: ds => by rw [PyData.bulkAll, List.length_cons]; have := bulk_len ds; omega
/-- what is shown of a value -/
structure Shw (P : Program) (w : World) (K : PySem.W.Frag) (H : Hp) (x : V) (d : PyData) : Prop where
  sh : ∀ H', Gx H H' → ShV P w K H' x d
  ok : d.showable = true
  dp : d.depth ≤ 8
  ln : d.shown.length ≤ sizeLine
variable [Msk]
theorem NV.shw {x : V} (h : NV P w K k H x) : ∃ d, Shw P w K H x d := by
  rcases h with ⟨d, h1, h2, h3⟩ | ⟨a, kvs, ds, rfl, h1, h2, h3, h4⟩
  · exact ⟨d, fun H' g => .inl ⟨Dp.gx (fun a o e => g _ _ (msk_sub _ _ e)) _ _ h1, h2⟩, h3.sh, Nat.le_trans h3.dp (by decide), h3.len (by decide)⟩
  · exact ⟨_, fun H' g => .inr ⟨a, kvs, ds, rfl, (Gx.dicR (fun a o e => g _ _ (msk_sub _ _ e)) h1), Paired.mapP h3 fun _ _ z => z.gx (fun a o e => g _ _ (msk_sub _ _ e)), rfl⟩, h4.sh, Nat.le_trans h4.dp (by decide), h4.len (by decide)⟩
/-- a promise about differences and a value comes to b there -/
def Jdg (v x : V) (H : Hp) (b : Bool) (sp : Sp) : Prop := ∀ H1, Gx H H1 → ∀ (Q : VK) (E : XK), (∀ H2, Gx H1 H2 → Q (.bl b) H2) → sp [v, x] H1 Q E
theorem NV.isf {v x : V} {ds : List Dif} (h : NV P w K k H x) (hv : DsV K H ds v) (hg : GoodDs ds) : ∃ b, Jdg v x H b (spIsfG P w K) := by
  rcases h with ⟨d, h1, h2, h3⟩ | ⟨a, kvs, es, rfl, h1, h2, h3, h4⟩
  · refine ⟨false, fun H1 g Q E q => ?_⟩
    obtain ⟨t, ty, kt⟩ := Dp.ty (P := P) (w := w) (Dp.gx (H' := H1) (fun a o e => g _ _ (msk_sub _ _ e)) _ _ h1)
    exact ⟨v, x, ds, rfl, hv.keep g.tk, hg, .inr ⟨t, ty, kt, q⟩⟩
  · by_cases c : fitsP ds kvs
    · refine ⟨true, fun H1 g Q E q => ⟨v, _, ds, rfl, hv.keep g.tk, hg, .inl ⟨a, kvs, rfl, Gx.dicR (fun a o e => g _ _ (msk_sub _ _ e)) h1, h2, fun kv hkv => ?_, fun b H' g' hb => ?_⟩⟩⟩
      · obtain ⟨i, hi⟩ := List.mem_iff_getElem?.mp hkv
        obtain ⟨e, _, de⟩ := pair_at' h3 hi
        exact (de.gx (H' := H1) fun a o e => g _ _ (msk_sub _ _ e)).ty
      · rw [hb.mpr c]; exact q _ g'
    · refine ⟨false, fun H1 g Q E q => ⟨v, _, ds, rfl, hv.keep g.tk, hg, .inl ⟨a, kvs, rfl, Gx.dicR (fun a o e => g _ _ (msk_sub _ _ e)) h1, h2, fun kv hkv => ?_, fun b H' g' hb => ?_⟩⟩⟩
      · obtain ⟨i, hi⟩ := List.mem_iff_getElem?.mp hkv
        obtain ⟨e, _, de⟩ := pair_at' h3 hi
        exact (de.gx (H' := H1) fun a o e => g _ _ (msk_sub _ _ e)).ty
      · rw [show b = false from Bool.eq_false_iff.mpr fun z => c (hb.mp z)]; exact q _ g'
theorem NV.isr {v x : V} {ds : List Dif} (h : NV P w K k H x) (hv : DsV K H ds v) (hg : GoodDs ds) : ∃ b, Jdg v x H b (spIsrG P w K) := by
  rcases h with ⟨d, h1, h2, h3⟩ | ⟨a, kvs, es, rfl, h1, h2, h3, h4⟩
  · have up : ∀ {H1}, Gx H H1 → Gx (msk k H) H1 := fun g a o e => g _ _ (msk_sub _ _ e)
    have no : ∀ t : String, kitB t "tuple" = some false → (∀ H1, Gx H H1 → TyA P w K H1 x t) → ∃ b, Jdg v x H b (spIsrG P w K) := fun t kt ty => ⟨false, fun H1 g Q E q => ⟨v, x, ds, rfl, hv.keep g.tk, hg, .inr ⟨t, ty H1 g, kt, q⟩⟩⟩
    cases d with
    | none => cases h1; exact no _ rfl fun _ _ => .non
    | bool b => cases h1; exact no _ rfl fun _ _ => .bl b
    | int i => cases h1; exact no _ rfl fun _ _ => .int i
    | str z => cases h1; exact no _ rfl fun _ _ => .str z
    | dict _ => cases h1
    | list es =>
      cases h1 with
      | lst h5 h6 => exact no _ rfl fun _ g => .lst ((up g).seqL h5)
    | tuple es =>
      cases h1 with
      | @tup a xs _ h5 h6 =>
        refine ⟨ringB ds xs, fun H1 g Q E q => ⟨v, _, ds, rfl, hv.keep g.tk, hg, .inl ⟨a, xs, rfl, (up g).seqT h5, ?_, DpAll.ty (DpAll.gx (up g) _ _ h6), q⟩⟩⟩
        rw [DpAll.len h6]
        have := h3.wt
        rw [PyData.bulk] at this
        exact Nat.le_trans (bulk_len es) this
  · exact ⟨false, fun H1 g Q E q => ⟨v, _, ds, rfl, hv.keep g.tk, hg, .inr ⟨_, .dic (Gx.dicR (fun a o e => g _ _ (msk_sub _ _ e)) h1), rfl, q⟩⟩⟩
end
section
variable {K : PySem.W.Frag} {P : Program} {w : World} {H H' : Hp}
theorem sh_bl {b : Bool} : ShV P w K H (.bl b) (.bool b) := .inl ⟨.bl b, by rw [PyData.hasDict]⟩
theorem dp_bl {b : Bool} : (PyData.bool b).depth ≤ 8 := by rw [PyData.depth]; exact Nat.zero_le _
theorem judge_loop {sp1 sp2 : Sp} {il : Nat} {F : Addr} {v : V} {xs : List V} {s0 s2 s3 s4 s5 s6 s7 s8 s9 s10 s11 s12 : Option V} {u : TS} {D : Ends}
    (e : ∀ y9 y10 y11 y12 : Option V, [s0, some v, s2, s3, s4, s5, s6, s7, s8, y9, y10, y11, y12][il]? = some (some (.ref F))) (hF : H F = some (.lst xs)) (hx : ∀ x ∈ xs, (∃ b, Jdg v x H b sp1 ∧ Jdg v x H b sp2) ∧ ∃ d, Shw P w K H x d)
    (q : ∀ H' y9 y10 y11 y12, Gx H H' → u D [s0, some v, s2, s3, s4, s5, s6, s7, s8, y9, y10, y11, y12] H') :
    tSeq (tFor (iList K (tVar il)) (gName 9) (tSeq (tPar 10 11 (tCons (tCB (rReprP P w K) (tCons (tCall sp1 [] E0 (tCons (tVar 1) (tCons (tVar 9) tNil))) tNil)) (tCons (tCB (rReprP P w K) (tCons (tVar 9) tNil)) tNil)))
      (tFor (iRng1 (tCons (tC (.int 2)) tNil)) (gName 12) (tIfS (tOr (tTest (tOp rNe (tCB (rReprP P w K) (tCons (tCall sp2 [] E0 (tCons (tVar 1) (tCons (tVar 9) tNil))) tNil)) (tVar 10))) (tTest (tOp rNe (tCB (rReprP P w K) (tCons (tVar 9) tNil)) (tVar 11)))) (tRet (tC (.bl false))) tNext)))) u D [s0, some v, s2, s3, s4, s5, s6, s7, s8, s9, s10, s11, s12] H := by
  refine ⟨_, e _ _ _ _, F, rfl, ⟨xs, .inl (.inl hF)⟩, for_it (walk_list (xs := xs)) (fun i σ H' => Gx H H' ∧ ∃ y9 y10 y11 y12, σ = [s0, some v, s2, s3, s4, s5, s6, s7, s8, y9, y10, y11, y12]) ⟨.refl, _, _, _, _, rfl⟩ (fun _ _ _ _ h => .inl (.inl (h.1 _ _ hF))) (fun i x σ H1 H2 hi hP hY => ?_) (fun σ H1 hP => ?_)⟩
  · obtain ⟨rfl, hxi⟩ := hY
    obtain ⟨g, y9, y10, y11, y12, rfl⟩ := hP
    obtain ⟨⟨b, j1, j2⟩, d, sh⟩ := hx x (List.mem_of_getElem? hxi)
    refine ⟨_, rfl, _, rfl, j1 _ g _ _ fun H3 g3 => ⟨_, .bool b, rfl, sh_bl, okK_bl.sh, dp_bl, okK_bl.len (by decide), _, rfl, x, d, rfl, sh.sh _ (g.trans g3), sh.ok, sh.dp, sh.ln, _, _, rfl, ?_⟩⟩
    have g03 := g.trans g3
    refine ⟨2, rfl, by decide, by decide, for_it walk_range (fun i σ H' => Gx H H' ∧ ∃ y12, σ = [s0, some v, s2, s3, s4, s5, s6, s7, s8, some x, some (.str (PyData.bool b).shown), some (.str d.shown), y12]) ⟨g03, _, rfl⟩ (fun _ _ _ _ _ => trivial) (fun m x' σ H4 H5 hm hP hY => ?_) (fun σ H4 hP => ?_)⟩
    · obtain ⟨rfl, rfl⟩ := hY
      obtain ⟨g5, y12, rfl⟩ := hP
      refine ⟨_, rfl, _, rfl, j2 _ g5 _ _ fun H6 g6 => ⟨_, .bool b, rfl, sh_bl, okK_bl.sh, dp_bl, okK_bl.len (by decide), _, rfl, rfl, _, rfl, ?_⟩⟩
      rw [decide_eq_true rfl, Bool.not_true]
      dsimp only
      rw [if_neg Bool.false_ne_true]
      refine ⟨_, rfl, x, d, rfl, sh.sh _ (g5.trans g6), sh.ok, sh.dp, sh.ln, _, rfl, rfl, _, rfl, ?_⟩
      rw [decide_eq_true rfl, Bool.not_true]
      dsimp only
      rw [if_neg Bool.false_ne_true]
      exact ⟨g5.trans g6, _, rfl⟩
    · obtain ⟨g5, y12, rfl⟩ := hP
      exact ⟨g5, _, _, _, _, rfl⟩
  · obtain ⟨g, y9, y10, y11, y12, rfl⟩ := hP
    exact q _ _ _ _ _ g
end
end Mk


set_option Elab.async false
set_option linter.all false
set_option maxRecDepth 100000
set_option maxHeartbeats 400000
/-! lists that are hidden while they grow -/
namespace Mk
open PySem PySem.Spec PyProof.Rows L2
section
variable {K : PySem.W.Frag} {P : Program} {w : World} {H H' M M' : Hp} {k a F : Addr}
def NVm (P : Program) (w : World) (K : PySem.W.Frag) (M : Hp) (x : V) : Prop :=
  (∃ d, Dp K M x d ∧ d.hasDict = false ∧ okK 100000 6 d) ∨ ∃ a kvs ds, x = .ref a ∧ DicR P w K M a kvs ∧ (kvs.map (·.1)).Nodup ∧
    Paired (fun (kv : PK × V) (e : PyData) => DVal P w K M kv.2 e) kvs ds ∧ okK 100000 6 (.dict ((kvs.map fun kv => ptD kv.1).zip ds))
theorem NVm.gx {x : V} (h : NVm P w K M x) (g : Gx M M') : NVm P w K M' x := by
  rcases h with ⟨d, a, b, c⟩ | ⟨a, kvs, ds, e, h1, h2, h3, h4⟩
  · exact .inl ⟨d, Dp.gx g _ _ a, b, c⟩
  · exact .inr ⟨a, kvs, ds, e, g.dicR h1, h2, Paired.mapP h3 fun _ _ z => z.gx g, h4⟩
def TIm (K : PySem.W.Frag) (M : Hp) (x : V) : Prop := ∃ (a : Addr) (ns : List Int), x = .ref a ∧ SqT K M a (ns.map V.int) ∧ ns.length ≤ 200 ∧ ∀ n ∈ ns, 0 ≤ n ∧ n < (1000 : Int)
theorem TIm.gx {x : V} (h : TIm K M x) (g : Gx M M') : TIm K M' x := let ⟨a, ns, e, h, r⟩ := h; ⟨a, ns, e, g.seqT h, r⟩
def NumM (P : Program) (w : World) (K : PySem.W.Frag) (M : Hp) (x : V) : Prop := ∃ a N, x = .ref a ∧ DicR P w K M a (IM N) ∧ (N.map (·.1)).Nodup ∧ N.length ≤ 200 ∧ ∀ p ∈ N, SmallP p.1 ∧ p.2.natAbs < 10 ^ 71
theorem NumM.gx {x : V} (h : NumM P w K M x) (g : Gx M M') : NumM P w K M' x := let ⟨a, N, e, h, r⟩ := h; ⟨a, N, e, g.dicR h, r⟩
theorem msk_some [Msk] {o : HO} (h : msk k H a = some o) : Off k a ∧ H a = some o := by
  unfold msk at h
  split at h
  · cases h
  · rename_i n
    exact ⟨⟨fun z => n (.inl z), fun z => n (.inr z)⟩, h⟩
theorem DicR.some' {kvs : List (PK × V)} (h : DicR P w K M a kvs) : ∃ o, M a = some o := by
  obtain ⟨xs, h | ⟨o, h⟩, _⟩ := h
  · exact ⟨_, h⟩
  · exact ⟨_, h⟩
theorem NumM.to [Msk] {x : V} (h : NumM P w K (msk k H) x) : NumD P w K k H x := by
  obtain ⟨a, N, e, h, r⟩ := h
  obtain ⟨o, ho⟩ := DicR.some' h
  exact ⟨a, N, e, (msk_some ho).1, h, r⟩
theorem NumM.of [Msk] {x : V} (h : NumD P w K k H x) : NumM P w K (msk k H) x := let ⟨a, N, e, _, h, r⟩ := h; ⟨a, N, e, h, r⟩
section
variable [mm : Msk]
theorem KeM.putM {ys : List V} (h : KeM H k) (nF : F ≠ k) : KeM (upd H F (.lst ys)) k := ⟨h.kg.off nF, fun b hb => by
  by_cases e : b = F
  · rw [e, upd_same]; exact ⟨_, rfl⟩
  · rw [upd_ne e]; exact h.ls b hb⟩
theorem msk_putM {o : HO} (hm : mm.m F) : msk k (upd H F o) = msk k H := by
  funext b
  by_cases e : Off k b
  · rw [msk_at e, msk_at e, upd_ne (fun z => e.2 (by rw [z]; exact hm))]
  · have : b = k ∨ mm.m b := by
      by_cases z : b = k
      · exact .inl z
      · exact .inr (Classical.byContradiction fun y => e ⟨z, y⟩)
    unfold msk
    rw [if_pos this, if_pos this]
variable {σ : L2.St} {te ta tb tl : TE} {S : V → Hp → Prop}
/-- l.append(te), l hidden -/
theorem t_appM {i : Nat} {xs : List V} {D : Ends} (e : σ[i]? = some (some (.ref F))) (hF : H F = some (.lst xs)) (nF : F ≠ k) (hl : xs.length ≤ 1000) (hk : KeM H k) (h : EvK k te σ H S) (q : ∀ y H', KSt k H H' → S y H' → H' F = some (.lst xs) → D.nx σ (upd H' F (.lst (xs ++ [y])))) :
    tDrop (tBM K "list" rAppend (tVar i) (tCons te tNil)) D σ H :=
  ⟨_, e, .inl ⟨rfl, _, .inl (.inl hF)⟩, h.go hk fun y H2 s2 hy => ⟨F, xs, y, rfl, rfl, s2.at' nF hF, line_lt (m := 1000) hl, q y H2 s2 hy (s2.at' nF hF)⟩⟩
/-- choice(keg, l[:m]) -/
theorem evk_choM {N : Hp → V → Prop} [Stab k N] {i m : Nat} {mi : Int} {xs : List V} (em : mi = (m : Int)) (e0 : σ[0]? = some (some (.ref k))) (e : σ[i]? = some (some (.ref F))) (hF : H F = some (.lst xs)) (nF : F ≠ k) (m0 : 0 < m) (m1 : m ≤ 100) (hl : m ≤ xs.length) (hx : ∀ x ∈ xs.take m, N H x) :
    EvK k (tCall spAny [] E0 (tCons (tVar 0) (tCons (tSl (rSlL K) (tVar i) tNoPart (tPart (tC (.int mi)))) tNil))) σ H (fun v H => N H v) := fun H1 s1 Q q =>
  ⟨_, e0, _, e, mi, rfl, F, xs, rfl, .inl (.inl (s1.at' nF hF)), fun p hp => by
    subst em
    have ec : cutV xs none (some (m : Int)) = xs.take m := by
      unfold cutV
      rw [HT.sIx_none, HT.sIx_nat, Nat.min_eq_left hl]
      simp
    rw [ec]
    have g := Gx.new (o := .lst (xs.take m)) hp
    have s2 := (KSt.ini s1.kg).grow g
    have lt : (xs.take m).length = m := by rw [List.length_take]; omega
    exact ⟨k, p, xs.take m, rfl, s2.kg.kg, upd_same, by omega, by omega, (s1.kg.ne hp).1.symm, fun x hx' u kg => q _ _ (s2.tap kg) (Stab.st (s2.tap kg) (Stab.st s1 (hx x hx')))⟩⟩
theorem evk_nearN {v : V} {ds : List Dif} (hk : KeM H k) (e0 : σ[0]? = some (some (.ref k))) (e1 : σ[1]? = some (some v)) (hv : DsV K H ds v) (hg : GoodDs ds) (sm : ∀ q ∈ allPts ds, SmallP q) (h : EvK k ta σ H (fun v H => NumD P w K k H v)) :
    EvK k (tCall (spNearN P w K) [] E0 (tCons (tVar 0) (tCons (tVar 1) (tCons ta tNil)))) σ H (fun v H => NV P w K k H v) := fun H1 s1 Q q =>
  ⟨_, e0, _, e1, h H1 s1 _ fun x H2 s2 ⟨a, N, ex, na, hd, nd, l, r⟩ => ⟨mm, k, a, v, ds, N, by rw [ex]; rfl, s2.kg, na, hv.keep ((s1.step s2).tk hk), hg, sm, msk_sub.dicR hd, l, r, fun H3 y s3 nv => q _ _ (s2.step s3) nv⟩⟩
theorem evk_nearR {v : V} {ds : List Dif} (hk : KeM H k) (e0 : σ[0]? = some (some (.ref k))) (e1 : σ[1]? = some (some v)) (hv : DsV K H ds v) (hg : GoodDs ds) (h : EvK k ta σ H (fun v H => TI K k H v)) :
    EvK k (tCall (spNearR P w K) [] E0 (tCons (tVar 0) (tCons (tVar 1) (tCons ta tNil)))) σ H (fun v H => NV P w K k H v) := fun H1 s1 Q q =>
  ⟨_, e0, _, e1, h H1 s1 _ fun x H2 s2 ⟨a, ns, ex, hs, l, r⟩ => ⟨mm, k, a, v, ds, ns, by rw [ex]; rfl, s2.kg, hv.keep ((s1.step s2).tk hk), hg.1, msk_sub.seqT hs, l, r, fun H3 y s3 nv => q _ _ (s2.step s3) nv⟩⟩
end
/-- one more list is hidden -/
theorem msk_up' {m1 : Addr → Prop} (s : @KSt ⟨m1⟩ k H H') (h : H F = none) : Gx (@msk ⟨m1⟩ k H) (@msk ⟨fun b => m1 b ∨ b = F⟩ k H') := fun a o e => by
  obtain ⟨⟨n1, n2⟩, e⟩ := @msk_some H k a ⟨m1⟩ o e
  have nF : a ≠ F := fun z => by rw [z, h] at e; cases e
  rw [@msk_at ⟨fun b => m1 b ∨ b = F⟩ _ _ _ ⟨n1, fun z => z.elim n2 nF⟩]
  exact @KSt.at' ⟨m1⟩ _ _ _ _ s n1 _ e
theorem kem_up' {m1 : Addr → Prop} {xs : List V} (hk : @KeM ⟨m1⟩ H k) (h : H F = some (.lst xs)) : @KeM ⟨fun b => m1 b ∨ b = F⟩ H k :=
  @KeM.mk ⟨fun b => m1 b ∨ b = F⟩ _ _ (@KeM.kg ⟨m1⟩ _ _ hk) fun b hb => by
    by_cases e : b = F
    · rw [e]; exact ⟨_, h⟩
    · exact @KeM.ls ⟨m1⟩ _ _ hk b (hb.resolve_right e)
end
end Mk


set_option Elab.async false
set_option linter.all false
set_option maxRecDepth 100000
set_option maxHeartbeats 400000
/-! the law's judge of a case -/
namespace Mk
open PySem PySem.Spec PyProof.Rows L2
section
variable {P : Program} {w : World} {K : PySem.W.Frag} {mg : Str → Option Value} {base : Heap}
def spRi (K : PySem.W.Frag) : Sp := fun vs H Q _ => ∃ (k : Addr) (v : V) (ds : List Dif), vs = [.ref k, v] ∧ KegV H k ∧ DsV K H ds v ∧ GoodDs ds ∧ (∀ q ∈ allPts ds, SmallP q) ∧ ∀ H', GxB k H H' → KegV H' k → Q (.bl true) H'
theorem G__law_right (T : Tops mg) (D : Def K mg "_law_right" s__law_right ["keg", "differences"]) (C_fitting : Cal P w K mg base "fitting" 6 ["differences"] (spFit P w K)) (C_ring : Cal P w K mg base "ring" 6 ["differences"] (spRof K)) (C__law_points_in : Cal P w K mg base "_law_points_in" 1 ["differences"] (spPin K)) (C__law_tap : Cal P w K mg base "_law_tap" 1 ["keg", "total"] spTap) (C__law_choice : Cal P w K mg base "_law_choice" 2 ["keg", "items"] spAny)
    (C__law_near_numbers : Cal P w K mg base "_law_near_numbers" 3 ["keg", "differences", "numbers"] (spNearN P w K)) (C__law_drawn_walk : Cal P w K mg base "_law_drawn_walk" 3 ["keg", "differences"] (spWalk K)) (C__law_near_ring : Cal P w K mg base "_law_near_ring" 3 ["keg", "differences", "found"] (spNearR P w K)) (C__law_fits_due : Cal P w K mg base "_law_fits_due" 2 ["differences", "value"] (spIsfG P w K)) (C_is_fitting : Cal P w K mg base "is_fitting" 6 ["differences", "value"] (spIsfG P w K))
    (C__law_ring_due : Cal P w K mg base "_law_ring_due" 2 ["differences", "value"] (spIsrG P w K)) (C_is_ring : Cal P w K mg base "is_ring" 6 ["differences", "value"] (spIsrG P w K)) : CalG P w K mg base "_law_right" 7 ["keg", "differences"] (spRi K) := by
  refine CalG.of D sc__law_right (fun vs H Q E h => ?_) (fun f cdv A outer s H vs Q E hG hr h => ?_)
  · obtain ⟨k, v, ds, rfl, _⟩ := h; rfl
  · obtain ⟨k, v, ds, rfl, hk, hv, hg, sm, q⟩ := h
    have hu := hu_of hr
    have h0 := hr.units0
    have h64 := hr.units
    have h20 := units20 hr
    have h3 := units3 hr
    refine ⟨_, (pss_cons (ps_par rfl sc__law_right.nd (i := 2) (j := 3) rfl rfl (by decide) rfl rfl (pa_cons (pe_cal C_fitting hr (by decide) (by rfl) (pa_cons (pv 1) pa_nil)) (pa_cons (pe_cal C_ring hr (by decide) (by rfl) (pa_cons (pv 1) pa_nil)) pa_nil)) (by rfl))
      (pss_cons (ps_set (i := 4) sc__law_right.nd rfl (Or.inl rfl) (pe_callTy (call_dictPP' h3 rfl (P := P) (w := w) (K := K) rfl rfl rfl) (by rfl) T.b_dict (by decide +kernel) (pa_cons (pe_lc (own := [("point", 5)]) rfl sc__law_right.nd (pi_list (pe_cal C__law_points_in hr (by decide) (by rfl) (pa_cons (pv 1) pa_nil))) (blkOk_by (own := [("point", 5)]) (N := N__law_right) (sc := defScope s__law_right) (by decide +kernel)) (fun _ _ _ _ _ => (pg_name (i := 5) sc__law_right.nd rfl (Or.inl rfl))) (fun _ _ _ _ _ => pts_nil) (fun _ _ _ _ _ => (pe_tup (pa_cons (pv 5) (pa_cons (pe_ifExp (pt_cmpR (op_neDB h64 (K := K) rfl) (pv 5) pe_str (nomark _)) (pe_op op_sub (pe_cal C__law_tap hr (by decide) (by rfl) (pa_cons (pv 0) (pa_cons pe_int pa_nil))) pe_int) pe_int) pa_nil))))) pa_nil)))
      (pss_cons (ps_set (i := 6) sc__law_right.nd rfl (Or.inl rfl) (pe_lst (pa_cons (pe_ifExp (pt_cmpR op_isN (pv 2) pe_non (nomark _)) (pv 4) (pv 2)) (pa_cons (pv 4) pa_nil))))
      (pss_cons (ps_for PassesOwn.never rfl (pi_range1 (by rfl) T.b_range (pa_cons pe_int pa_nil)) (pg_name (i := 7) sc__law_right.nd rfl (Or.inl rfl))
      (pss_one (ps_expr (pe_bm PySem.F.plainAttrs_list PySem.F.slot_list_append PySem.F.type_list_append mt_append (pv 6) (pa_cons (pe_cal C__law_near_numbers hr (by decide) (by rfl) (pa_cons (pv 0) (pa_cons (pv 1) (pa_cons (pe_cal C__law_choice hr (by decide) (by rfl) (pa_cons (pv 0) (pa_cons (pe_slice sl_list (pv 6) po_none (po_some pe_int)) pa_nil))) pa_nil)))) pa_nil)))))
      (pss_cons (ps_set (i := 8) sc__law_right.nd rfl (Or.inl rfl) (pe_lst (pa_cons (pe_ifExp (pt_cmpR op_isN (pv 3) pe_non (nomark _)) (pe_tup pa_nil) (pv 3)) (pa_cons (pe_cal C__law_drawn_walk hr (by decide) (by rfl) (pa_cons (pv 0) (pa_cons (pv 1) pa_nil))) (pa_cons (pe_cal C__law_drawn_walk hr (by decide) (by rfl) (pa_cons (pv 0) (pa_cons (pv 1) pa_nil))) pa_nil)))))
      (pss_cons (ps_for PassesOwn.never rfl (pi_range1 (by rfl) T.b_range (pa_cons pe_int pa_nil)) (pg_name (i := 7) sc__law_right.nd rfl (Or.inl rfl))
      (pss_one (ps_expr (pe_bm PySem.F.plainAttrs_list PySem.F.slot_list_append PySem.F.type_list_append mt_append (pv 8) (pa_cons (pe_cal C__law_near_ring hr (by decide) (by rfl) (pa_cons (pv 0) (pa_cons (pv 1) (pa_cons (pe_cal C__law_choice hr (by decide) (by rfl) (pa_cons (pv 0) (pa_cons (pe_slice sl_list (pv 8) po_none (po_some pe_int)) pa_nil))) pa_nil)))) pa_nil)))))
      (pss_cons (ps_for PassesOwn.never rfl (pi_list (pv 6)) (pg_name (i := 9) sc__law_right.nd rfl (Or.inl rfl))
      (pss_cons (ps_par rfl sc__law_right.nd (i := 10) (j := 11) rfl rfl (by decide) rfl rfl (pa_cons (pe_callB (call_reprP hG h20) (by rfl) T.b_repr (by decide +kernel) (pa_cons (pe_cal C__law_fits_due hr (by decide) (by rfl) (pa_cons (pv 1) (pa_cons (pv 9) pa_nil))) pa_nil)) (pa_cons (pe_callB (call_reprP hG h20) (by rfl) T.b_repr (by decide +kernel) (pa_cons (pv 9) pa_nil)) pa_nil)) (by rfl))
      (pss_one (ps_for PassesOwn.never rfl (pi_range1 (by rfl) T.b_range (pa_cons pe_int pa_nil)) (pg_name (i := 12) sc__law_right.nd rfl (Or.inl rfl))
      (pss_one (ps_if (PW.pt (pw_or (pt_cmpR op_ne (pe_callB (call_reprP hG h20) (by rfl) T.b_repr (by decide +kernel) (pa_cons (pe_cal C_is_fitting hr (by decide) (by rfl) (pa_cons (pv 1) (pa_cons (pv 9) pa_nil))) pa_nil)) (pv 10) (nomark _)) (pw_or1 (pt_cmpR op_ne (pe_callB (call_reprP hG h20) (by rfl) T.b_repr (by decide +kernel) (pa_cons (pv 9) pa_nil)) (pv 11) (nomark _))))) (pss_one (ps_ret pe_bl)) pss_nil))))))
      (pss_cons (ps_for PassesOwn.never rfl (pi_list (pv 8)) (pg_name (i := 9) sc__law_right.nd rfl (Or.inl rfl))
      (pss_cons (ps_par rfl sc__law_right.nd (i := 10) (j := 11) rfl rfl (by decide) rfl rfl (pa_cons (pe_callB (call_reprP hG h20) (by rfl) T.b_repr (by decide +kernel) (pa_cons (pe_cal C__law_ring_due hr (by decide) (by rfl) (pa_cons (pv 1) (pa_cons (pv 9) pa_nil))) pa_nil)) (pa_cons (pe_callB (call_reprP hG h20) (by rfl) T.b_repr (by decide +kernel) (pa_cons (pv 9) pa_nil)) pa_nil)) (by rfl))
      (pss_one (ps_for PassesOwn.never rfl (pi_range1 (by rfl) T.b_range (pa_cons pe_int pa_nil)) (pg_name (i := 12) sc__law_right.nd rfl (Or.inl rfl))
      (pss_one (ps_if (PW.pt (pw_or (pt_cmpR op_ne (pe_callB (call_reprP hG h20) (by rfl) T.b_repr (by decide +kernel) (pa_cons (pe_cal C_is_ring hr (by decide) (by rfl) (pa_cons (pv 1) (pa_cons (pv 9) pa_nil))) pa_nil)) (pv 10) (nomark _)) (pw_or1 (pt_cmpR op_ne (pe_callB (call_reprP hG h20) (by rfl) T.b_repr (by decide +kernel) (pa_cons (pv 9) pa_nil)) (pv 11) (nomark _))))) (pss_one (ps_ret pe_bl)) pss_nil))))))
      (pss_one (ps_ret pe_bl)))))))))), ?_⟩
    let mm0 : Msk := ⟨fun _ => False⟩
    have hk0 : KeM H k := ⟨hk, nofun⟩
    refine t_parK (S := fun v H => v = .non ∨ NumD P w K k H v) (S2 := fun v H => v = .non ∨ TI K k H v) (evk_fit hk0 rfl hv hg sm) hk0 (fun x2 H1 s1 _ => evk_ring s1.kg rfl (hv.keep (s1.tk hk0)) hg) fun x2 H1 x3 H2 s1 p1 s2 p2 => ?_
    have p1 := p1.imp id (Stab.st s2)
    have hv2 := hv.keep ((s1.step s2).tk hk0)
    have s02 := s1.step s2
    have small : ∀ {n : Int}, n.natAbs ≤ 1000 → intS (.int n) := fun h => ⟨_, rfl, Nat.lt_of_le_of_lt h (by decide)⟩
    refine t_asgK (S := fun v H => NumD P w K k H v) (evk_dictI (n := 200) (evk_lcKR (C := intS) (evk_pts s02.kg rfl hv2 hg sm) (by decide) (fun _ => rfl) fun y H5 kg5 ky => evk_pair (evk_varK kg5 rfl ky) fun H6 s6 Q q => ?_) (by decide)) s02.kg fun x4 H3 s3 p3 => ?_
    · obtain ⟨qy, kq, gq⟩ := ky.tk (s6.tk kg5)
      refine ⟨_, rfl, ptD qy, .str "", kq.dp, .str _, shaped_pt gq.1, shaped_pt (k := zeroP) ⟨by decide, by decide⟩, _, rfl, ?_⟩
      generalize (!PyData.eqv _ _) = bb
      cases bb with
      | true => exact evk_tap (m := 9) rfl (fun H R r => r) (by decide) (by decide) H6 s6 _ fun r H7 s7 ⟨n, er, r0, r1⟩ => ⟨n, 4, er, rfl, q _ _ s7 (small (by omega))⟩
      | false => exact q _ _ (.ini s6.kg) (small (by decide))
    have s03 := s02.step s3
    have p1 := p1.imp id (Stab.st s3)
    have p2 := p2.imp id (Stab.st s3)
    have pick : ∀ {σ : L2.St}, σ[2]? = some (some x2) → σ[4]? = some (some x4) → EvK k (tIf (tTest (tOp (fun x y H Q => y = V.non ∧ Q (V.bl (decide (x = V.non))) H) (tVar 2) (tC V.non))) (tVar 4) (tVar 2)) σ H3 (fun v H => NumD P w K k H v) := fun e2 e4 H1 s1 Q q => by
      refine ⟨_, e2, rfl, _, rfl, ?_⟩
      rcases p1 with h | h
      · rw [if_pos (decide_eq_true h)]
        exact ⟨_, e4, q _ _ (.ini s1.kg) (Stab.st s1 p3)⟩
      · rw [if_neg (by
          obtain ⟨a, _, ea, _⟩ := h
          rw [ea]; simp)]
        exact ⟨_, e2, q _ _ (.ini s1.kg) (Stab.st s1 h)⟩
    refine t_asgK (S := FL (NumD P w K k) k H3 2) (evk_lstN (N := NumD P w K k) (evka_cons (pick rfl rfl) (evka_cons (evk_S (S := fun v H => NumD P w K k H v) rfl p3 fun _ s h => Stab.st s h) evka_nil)) (by decide)) s03.kg fun x6 H4 s4 ⟨F, xs0, Hb, e6, nF, eF, l0, sb0, hFb, sb, hx0⟩ => ?_
    subst e6
    have G4 : Gx (@msk mm0 k H3) (@msk ⟨fun b => False ∨ b = F⟩ k H4) := (sb0.msk).trans (msk_up' sb hFb)
    have kg4 := kem_up' s4.kg eF
    have hv3 : DsV K (@msk mm0 k H3) ds v := (hv.keep (s03.tk hk0)).keep (tk_msk s03.kg)
    have p24 : x3 = .non ∨ TIm K (@msk ⟨fun b => False ∨ b = F⟩ k H4) x3 := p2.imp id fun h => TIm.gx h G4
    have xs04 : ∀ x ∈ xs0, NumM P w K (@msk ⟨fun b => False ∨ b = F⟩ k H4) x := fun x hx => (NumM.of (hx0 x hx)).gx (msk_up' sb hFb)
    have hv4 := hv3.keep G4.tk
    have nFk := nF.1
    have back0 : ∀ b o, b ≠ k → H b = some o → (@msk ⟨fun b => False ∨ b = F⟩ k H4) b = some o := fun b o hb ho => G4 _ _ (by
      rw [@msk_at mm0 _ _ _ ⟨hb, id⟩]; exact s03.at' hb ho)
    clear nF sb hx0 G4 hv3 p2 p1 pick
    let mm1 : Msk := ⟨fun b => False ∨ b = F⟩
    have mF : mm1.m F := .inr rfl
    refine ⟨8, rfl, by decide, by decide, for_it walk_range (fun i σ H' => ∃ y7 xs, σ = [some (.ref k), some v, some x2, some x3, some x4, none, some (.ref F), y7, none, none, none, none, none] ∧ @KeM mm1 H' k ∧ Gx (@msk mm1 k H4) (@msk mm1 k H') ∧ H' F = some (.lst xs) ∧ xs.length = i + 2 ∧
        (∀ x ∈ xs.take 2, NumM P w K (@msk mm1 k H') x) ∧ ∀ x ∈ xs, NVm P w K (@msk mm1 k H') x) ⟨_, xs0, rfl, kg4, .refl, eF, l0, fun x hx => xs04 x (List.mem_of_mem_take hx), fun x hx => (xs04 x hx).to.nv kg4⟩ (fun _ _ _ _ _ => trivial) (fun i x σ H5 H6 hi hP hY => ?_) (fun σ H5 hP => ?_)⟩
    · obtain ⟨rfl, rfl⟩ := hY
      obtain ⟨y7, xs, rfl, kg, G, eF', lx, hn, hnv⟩ := hP
      refine @t_appM K H6 k F mm1 _ _ _ _ _ _ rfl eF' nFk (by omega) kg (@evk_nearN K P w H6 k mm1 _ _ _ _ kg rfl rfl (msk_sub.tk |> (hv4.keep G.tk).keep) hg sm (@evk_choM K H6 k F mm1 _ (NumD P w K k) _ _ 2 _ _ rfl rfl rfl eF' nFk (by decide) (by decide) (by omega) fun x hx => (hn x hx).to)) fun y H7 s7 hy eF7 => ?_
      have em : msk k (upd H7 F (.lst (xs ++ [y]))) = msk k H7 := msk_putM mF
      refine ⟨_, xs ++ [y], rfl, s7.kg.putM nFk, ?_, upd_same, by rw [List.length_append, List.length_singleton]; omega, fun x hx => ?_, fun x hx => ?_⟩
      · rw [em]; exact G.trans s7.msk
      · rw [em]
        rw [List.take_append_of_le_length (by omega)] at hx
        exact (hn x hx).gx s7.msk
      · rw [em]
        rcases List.mem_append.mp hx with hx | hx
        · exact (hnv x hx).gx s7.msk
        · rw [List.mem_singleton] at hx
          rw [hx]; exact hy
    obtain ⟨y7, xs, rfl, kg5, G5, eF5, lx, _, hnv5⟩ := hP
    dsimp only
    have p35 : x3 = .non ∨ TIm K (@msk mm1 k H5) x3 := p24.imp id fun h => h.gx G5
    have hv5 : DsV K H5 ds v := (hv4.keep G5.tk).keep msk_sub.tk
    have first : ∀ {σ : L2.St}, σ[3]? = some (some x3) → @EvK mm1 k (tIf (tTest (tOp (fun x y H Q => y = V.non ∧ Q (V.bl (decide (x = V.non))) H) (tVar 3) (tC V.non))) (tTup tNil) (tVar 3)) σ H5 (fun v H => TI K k H v) := fun e3 H1 s1 Q q => by
      refine ⟨_, e3, rfl, _, rfl, ?_⟩
      rcases p35 with h | h
      · rw [if_pos (decide_eq_true h)]
        refine ⟨Nat.zero_le _, fun p hp => ?_⟩
        have s2 := KSt.new (o := .tup []) s1.kg hp
        exact q _ _ s2 ⟨p, [], rfl, tk_msk s2.kg _ _ (.inl (.inl upd_same)), Nat.zero_le _, nofun⟩
      · rw [if_neg (by
          obtain ⟨a, _, ea, _⟩ := h
          rw [ea]; simp)]
        exact ⟨_, e3, q _ _ (.ini s1.kg) (TIm.gx h s1.msk)⟩
    refine @t_asgK mm1 _ _ _ _ (FL (TI K k) k H5 3) _ _ _ (evk_lstN (N := TI K k) (evka_cons (first rfl) (evka_cons (evk_walk kg5 rfl rfl hv5 hg) (evka_cons (evk_walk kg5 rfl rfl hv5 hg) evka_nil))) (by decide)) kg5 fun x8 H6 s6 ⟨F2, xs20, Hb2, e8, nF2, eF2, l20, sb20, hFb2, sb2, hx20⟩ => ?_
    subst e8
    have G6 : Gx (@msk mm1 k H5) (@msk ⟨fun b => (False ∨ b = F) ∨ b = F2⟩ k H6) := (sb20.msk).trans (msk_up' sb2 hFb2)
    have kg6 := kem_up' s6.kg eF2
    have eF6 : H6 F = some (.lst xs) := s6.at' nFk eF5
    have nF12 : F ≠ F2 := fun z => by
      have := sb20.at' nFk eF5
      rw [z, hFb2] at this; cases this
    have nF2k := nF2.1
    have xs26 : ∀ x ∈ xs20, TIm K (@msk ⟨fun b => (False ∨ b = F) ∨ b = F2⟩ k H6) x := fun x hx => TIm.gx (hx20 x hx) (msk_up' sb2 hFb2)
    have hnv6 : ∀ x ∈ xs, NVm P w K (@msk ⟨fun b => (False ∨ b = F) ∨ b = F2⟩ k H6) x := fun x hx => (hnv5 x hx).gx G6
    have hv6 := (hv4.keep G5.tk).keep G6.tk
    have back6 : ∀ b o, b ≠ k → H b = some o → (@msk ⟨fun b => (False ∨ b = F) ∨ b = F2⟩ k H6) b = some o := fun b o hb ho => G6 _ _ (G5 _ _ (back0 b o hb ho))
    clear nF2 sb2 hx20 G6 first hnv5
    let mm2 : Msk := ⟨fun b => (False ∨ b = F) ∨ b = F2⟩
    have mF2 : mm2.m F2 := .inr rfl
    refine ⟨8, rfl, by decide, by decide, for_it walk_range (fun i σ H' => ∃ y7 xs2, σ = [some (.ref k), some v, some x2, some x3, some x4, none, some (.ref F), y7, some (.ref F2), none, none, none, none] ∧ @KeM mm2 H' k ∧ Gx (@msk mm2 k H6) (@msk mm2 k H') ∧ H' F = some (.lst xs) ∧ H' F2 = some (.lst xs2) ∧ xs2.length = i + 3 ∧
        (∀ x ∈ xs2.take 3, TIm K (@msk mm2 k H') x) ∧ ∀ x ∈ xs2, NVm P w K (@msk mm2 k H') x) ⟨_, xs20, rfl, kg6, .refl, eF6, eF2, l20, fun x hx => xs26 x (List.mem_of_mem_take hx), fun x hx => TI.nv (xs26 x hx)⟩ (fun _ _ _ _ _ => trivial) (fun i x σ H7 H8 hi hP hY => ?_) (fun σ H7 hP => ?_)⟩
    · obtain ⟨rfl, rfl⟩ := hY
      obtain ⟨y7, xs2, rfl, kg, G, eFF, eF', lx2, hn, hnv⟩ := hP
      refine @t_appM K H8 k F2 mm2 _ _ _ _ _ _ rfl eF' nF2k (by omega) kg (@evk_nearR K P w H8 k mm2 _ _ _ _ kg rfl rfl ((hv6.keep G.tk).keep msk_sub.tk) hg (@evk_choM K H8 k F2 mm2 _ (TI K k) _ _ 3 _ _ rfl rfl rfl eF' nF2k (by decide) (by decide) (by omega) fun x hx => hn x hx)) fun y H9 s9 hy eF9 => ?_
      have em : msk k (upd H9 F2 (.lst (xs2 ++ [y]))) = msk k H9 := msk_putM mF2
      refine ⟨_, xs2 ++ [y], rfl, s9.kg.putM nF2k, ?_, by rw [upd_ne nF12]; exact s9.at' nFk eFF, upd_same, by rw [List.length_append, List.length_singleton]; omega, fun x hx => ?_, fun x hx => ?_⟩
      · rw [em]; exact G.trans s9.msk
      · rw [em]
        rw [List.take_append_of_le_length (by omega)] at hx
        exact (hn x hx).gx s9.msk
      · rw [em]
        rcases List.mem_append.mp hx with hx | hx
        · exact (hnv x hx).gx s9.msk
        · rw [List.mem_singleton] at hx
          rw [hx]; exact hy
    obtain ⟨y7', xs2, rfl, kg7, G7, eF7, eF27, _, _, hnv7⟩ := hP
    dsimp only
    have hv7 : DsV K H7 ds v := (hv6.keep G7.tk).keep msk_sub.tk
    have nv7 : ∀ x ∈ xs, NV P w K k H7 x := fun x hx => (hnv6 x hx).gx G7
    refine judge_loop (fun _ _ _ _ => rfl) eF7 (fun x hx => ⟨?_, (nv7 x hx).shw⟩) fun H8 y9 y10 y11 y12 g8 => ?_
    · obtain ⟨b, hb⟩ := (nv7 x hx).isf hv7 hg
      exact ⟨b, hb, hb⟩
    have sg : KSt k H7 H8 := (KSt.ini kg7).grow g8
    have nv8 : ∀ x ∈ xs2, NV P w K k H8 x := fun x hx => (hnv7 x hx).gx sg.msk
    refine judge_loop (fun _ _ _ _ => rfl) (g8 _ _ eF27) (fun x hx => ⟨?_, (nv8 x hx).shw⟩) fun H9 y9 y10 y11 y12 g9 => ?_
    · obtain ⟨b, hb⟩ := (nv8 x hx).isr (hv7.keep g8.tk) hg
      exact ⟨b, hb, hb⟩
    exact q _ (fun b o hb ho => g9 _ _ (g8 _ _ (msk_sub _ _ (G7 _ _ (back6 b o hb ho))))) ((kg7.kg.gx g8).gx g9)
end
end Mk


set_option Elab.async false
set_option linter.all false
set_option maxRecDepth 100000
set_option maxHeartbeats 400000
/-! the law -/
namespace Mk
open PySem PySem.Spec PyProof.Rows L2
def pI : PK := .inl (.inr "i")
def pJ : PK := .inl (.inr "j")
def rowsD : List Dif := [(pI, pJ, 2), (pJ, pI, -3), (pI, pI, 0), (pJ, pJ, 5)]
def ringsL : List (List Int) := [[0, 1], [1, 0], [1, 2, 0], [0, 3, 1], [0, 1, 0, 1, 0, 1], [2], [0, 0], [1, 3, 0]]
theorem rowsD_good : GoodDs rowsD := ⟨by decide, fun d hd => by
  simp only [rowsD, List.mem_cons, List.not_mem_nil, or_false] at hd
  rcases hd with rfl | rfl | rfl | rfl
  · exact ⟨⟨by decide, by decide⟩, ⟨by decide, by decide⟩, by decide, by decide⟩
  · exact ⟨⟨by decide, by decide⟩, ⟨by decide, by decide⟩, by decide, by decide⟩
  · exact ⟨⟨by decide, by decide⟩, ⟨by decide, by decide⟩, by decide, by decide⟩
  · exact ⟨⟨by decide, by decide⟩, ⟨by decide, by decide⟩, by decide, by decide⟩⟩
theorem told_is : (ringsL.map fun l => V.bl (ringB rowsD (l.map V.int))) = [.bl true, .bl true, .bl true, .bl false, .bl true, .bl false, .bl false, .bl false] := by decide +kernel
theorem long_is : ringB rowsD ((List.replicate 6 [V.int 0, V.int 1]).flatten ++ [.int 0, .int 3, .int 1]) = true := by decide +kernel
/-- tuples of constants, from the left -/
def taC : List V → TA
  | [] => tNil
  | v :: vs => tCons (tC v) (taC vs)
def taR : List (List V) → TA
  | [] => tNil
  | c :: cs => tCons (tTup (taC c)) (taR cs)
theorem taC_go {σ : L2.St} {H : Hp} : ∀ (c : List V) {Q : List V → Hp → Prop}, Q c H → taC c σ H Q
  | [], _, q => q
  | v :: vs, Q, q => taC_go vs (Q := fun xs H => Q (v :: xs) H) q
theorem taR_go {K : PySem.W.Frag} {σ : L2.St} : ∀ (cs : List (List V)) {H : Hp} {Q : List V → Hp → Prop}, (∀ c ∈ cs, c.length ≤ 1000) → (∀ vs H', Gx H H' → Paired (fun (c : List V) v => ∃ a, v = .ref a ∧ SqT K H' a c) cs vs → Q vs H') → taR cs σ H Q
  | [], H, Q, _, q => q [] H .refl .nil
  | c :: cs, H, Q, hl, q => taC_go c ⟨line_le (hl c List.mem_cons_self), fun p hp => taR_go cs (fun x hx => hl x (List.mem_cons_of_mem _ hx)) fun vs H' g pr => q _ _ ((Gx.new hp).trans g) (.cons ⟨p, rfl, g.seqT (.inl (.inl upd_same))⟩ pr)⟩
theorem gN_go {i : Nat} {v : V} {σ : L2.St} {H : Hp} {Q : L2.St → Hp → Prop} (h : Q (σ.set i (some v)) H) : gName i v σ H Q := h
theorem t_asgR {K : PySem.W.Frag} {cs : List (List V)} {i : Nat} {u : TS} {D : Ends} {σ : L2.St} {H : Hp} (hl : ∀ c ∈ cs, c.length ≤ 1000) (hn : cs.length ≤ 1000)
    (q : ∀ p vs H', Gx H H' → SqT K H' p vs → Paired (fun (c : List V) v => ∃ a, v = .ref a ∧ SqT K H' a c) cs vs → u D (σ.set i (some (.ref p))) H') : tSeq (tAsg (tTup (taR cs)) (gName i)) u D σ H :=
  taR_go (K := K) cs hl fun vs H1 g pr => ⟨line_le (m := 1000) (by rw [← Paired.length pr]; exact hn), fun p hp => q p vs _ (g.trans (.new hp)) (.inl (.inl upd_same)) (Paired.mapP pr fun _ _ ⟨a, e, h⟩ => ⟨a, e, (Gx.new hp).seqT h⟩)⟩
section
variable {P : Program} {w : World} {K : PySem.W.Frag} {mg : Str → Option Value} {base : Heap}
def spLaw (K : PySem.W.Frag) : Sp := fun vs H Q _ => ∃ (a : Addr) (ns : List Int), vs = [.ref a] ∧ SqL K H a (ns.map V.int) ∧ ns.length ≤ 63 ∧ ∀ H', Q (.bl true) H'
theorem okG_law {f : Addr} {fd : FuncData} (F : Fun K "law" "law" s_law f fd) (T : Tops mg) (C__law_keg : Cal P w K mg base "_law_keg" 1 ["script", "at"] (spKeg K)) (C__law_tap : Cal P w K mg base "_law_tap" 1 ["keg", "total"] spTap) (C__law_choice : Cal P w K mg base "_law_choice" 2 ["keg", "items"] spAny) (C__law_points_drawn : Cal P w K mg base "_law_points_drawn" 3 ["keg", "count"] (spDrawn K))
    (C__law_right : CalG P w K mg base "_law_right" 7 ["keg", "differences"] (spRi K)) (C__law_differences : Cal P w K mg base "_law_differences" 3 ["keg", "points", "count", "wide"] (spDifs K)) (C_is_ring : Cal P w K mg base "is_ring" 6 ["differences", "value"] (spIsrG P w K)) : FnG P w K mg base 8 f fd ["script"] (spLaw K) := by
  refine Fun.okG F sc_law (fun vs H Q E h => ?_) (fun cdv A outer s H vs Q E hG hr h => ?_)
  · obtain ⟨a, ns, rfl, _⟩ := h; rfl
  · obtain ⟨a, ns, rfl, hS, hl, q⟩ := h
    have hu := hu_of hr
    have h0 := hr.units0
    have h64 := hr.units
    refine ⟨_, (pss_cons (ps_for PassesOwn.never rfl (pi_range1 (by rfl) T.b_range (pa_cons (pe_callB (call_max2 rfl) (by rfl) T.b_max (by decide +kernel) (pa_cons pe_int (pa_cons (pe_callB (call_min2 rfl) (by rfl) T.b_min (by decide +kernel) (pa_cons pe_int (pa_cons (pe_callB call_len_seq (by rfl) T.b_len (by decide +kernel) (pa_cons (pv 0) pa_nil)) pa_nil))) pa_nil))) pa_nil)) (pg_name (i := 1) sc_law.nd rfl (Or.inl rfl))
      (pss_cons (ps_set (i := 2) sc_law.nd rfl (Or.inl rfl) (pe_cal C__law_keg hr (by decide) (by rfl) (pa_cons (pv 0) (pa_cons (pv 1) pa_nil))))
      (pss_cons (ps_set (i := 3) sc_law.nd rfl (Or.inl rfl) (pe_cal C__law_points_drawn hr (by decide) (by rfl) (pa_cons (pv 2) (pa_cons (pe_op op_add pe_int (pe_cal C__law_tap hr (by decide) (by rfl) (pa_cons (pv 2) (pa_cons pe_int pa_nil)))) pa_nil))))
      (pss_one (ps_for PassesOwn.never rfl (pi_range1 (by rfl) T.b_range (pa_cons pe_int pa_nil)) (pg_name (i := 4) sc_law.nd rfl (Or.inl rfl))
      (pss_one (ps_if (pt_not (pt_val (pe_calG C__law_right hG hr (by decide) (by rfl) (pa_cons (pv 2) (pa_cons (pe_cal C__law_differences hr (by decide) (by rfl) (pa_cons (pv 2) (pa_cons (pv 3) (pa_cons (pe_cal C__law_tap hr (by decide) (by rfl) (pa_cons (pv 2) (pa_cons pe_int pa_nil))) (pa_cons (pe_cal C__law_choice hr (by decide) (by rfl) (pa_cons (pv 2) (pa_cons (pe_lst (pa_cons pe_int (pa_cons pe_int pa_nil))) pa_nil))) pa_nil))))) pa_nil))))) (pss_one (ps_ret pe_bl)) pss_nil)))))))
      (pss_cons (ps_set (i := 5) sc_law.nd rfl (Or.inr rfl) (pe_tup (pa_cons (pe_tup (pa_cons pe_str (pa_cons pe_str (pa_cons pe_int pa_nil)))) (pa_cons (pe_tup (pa_cons pe_str (pa_cons pe_str (pa_cons (pe_un un_neg pe_int) pa_nil)))) (pa_cons (pe_tup (pa_cons pe_str (pa_cons pe_str (pa_cons pe_int pa_nil)))) (pa_cons (pe_tup (pa_cons pe_str (pa_cons pe_str (pa_cons pe_int pa_nil)))) pa_nil))))))
      (pss_cons (ps_set (i := 6) sc_law.nd rfl (Or.inl rfl) (pe_tup (pa_cons (pe_tup (pa_cons pe_int (pa_cons pe_int pa_nil))) (pa_cons (pe_tup (pa_cons pe_int (pa_cons pe_int pa_nil))) (pa_cons (pe_tup (pa_cons pe_int (pa_cons pe_int (pa_cons pe_int pa_nil)))) (pa_cons (pe_tup (pa_cons pe_int (pa_cons pe_int (pa_cons pe_int pa_nil)))) (pa_cons (pe_tup (pa_cons pe_int (pa_cons pe_int (pa_cons pe_int (pa_cons pe_int (pa_cons pe_int (pa_cons pe_int pa_nil))))))) (pa_cons (pe_tup (pa_cons pe_int pa_nil)) (pa_cons (pe_tup (pa_cons pe_int (pa_cons pe_int pa_nil))) (pa_cons (pe_tup (pa_cons pe_int (pa_cons pe_int (pa_cons pe_int pa_nil)))) pa_nil))))))))))
      (pss_cons (ps_setLc (i := 7) (own := [("value", 8)]) rfl sc_law.nd rfl rfl (sw_true rfl rfl rfl (by decide +kernel)) (pi_tup (pv 6)) (blkOk_by (own := [("value", 8)]) (N := N_law) (sc := defScope s_law) (by decide +kernel)) (fun _ _ _ _ _ => (pg_name (i := 8) sc_law.nd rfl (Or.inl rfl))) (fun _ _ _ _ _ => pts_nil) (fun _ _ _ _ _ => (pe_cal C_is_ring hr (by decide) (by rfl) (pa_cons (pv 5) (pa_cons (pv 8) pa_nil)))))
      (pss_one (ps_ret (pe_and (pe_cmpR (op_eqD h64) (pv 7) (pe_lst (pa_cons pe_bl (pa_cons pe_bl (pa_cons pe_bl (pa_cons pe_bl (pa_cons pe_bl (pa_cons pe_bl (pa_cons pe_bl (pa_cons pe_bl pa_nil))))))))) (nomark _)) (pe_one (pe_cal C_is_ring hr (by decide) (by rfl) (pa_cons (pv 5) (pa_cons (pe_op op_catA (pe_op op_repTE (pe_tup (pa_cons pe_int (pa_cons pe_int pa_nil))) pe_int) (pe_tup (pa_cons pe_int (pa_cons pe_int (pa_cons pe_int pa_nil))))) pa_nil))))))))))), ?_⟩
    refine ⟨_, rfl, a, _, rfl, .inl hS, _, _, rfl, _, _, rfl, _, rfl, ?_⟩
    generalize hn : (if (if ((ns.map V.int).length : Int) < 5 then ((ns.map V.int).length : Int) else 5) > 1 then (if ((ns.map V.int).length : Int) < 5 then ((ns.map V.int).length : Int) else 5) else 1) = n
    have n1 : 0 ≤ n := by rw [← hn]; split <;> omega
    have n2 : n ≤ 63 := by
      rw [← hn]
      rw [List.length_map]
      split <;> split <;> omega
    refine ⟨by omega, by omega, for_it walk_range (fun _ σ H' => ∃ x1 x2 x3 x4, σ = [some (.ref a), x1, x2, x3, x4, none, none, none, none] ∧ Gx H H') ⟨_, _, _, _, rfl, .refl⟩ (fun _ _ _ _ _ => trivial) (fun i x σ H1 H2 hi hP hY => ?_) (fun σ H1 hP => ?_)⟩
    · obtain ⟨rfl, rfl⟩ := hY
      obtain ⟨x1, x2, x3, x4, rfl, g1⟩ := hP
      refine ⟨_, rfl, _, rfl, a, ns, _, rfl, g1.seqL hS, by omega, fun k gk sk hk => ?_⟩
      have g2 := Gx.new (o := .lst [.int gk, .int sk, .int 0]) hk
      have kk : KegV (upd H2 k (.lst [.int gk, .int sk, .int 0])) k := ⟨_, _, _, upd_same⟩
      have hk0 : H k = none := g1.free hk
      have g12 := g1.trans g2
      generalize upd H2 k (.lst [.int gk, .int sk, .int 0]) = H3 at *
      refine ⟨_, rfl, _, rfl, k, 4, rfl, kk, by decide, by decide, fun r u r0 r1 kk1 => ⟨1, r, rfl, rfl, ?_⟩⟩
      have g4 : Gx H (upd H3 k u) := g12.mut hk0
      generalize upd H3 k u = H4 at *
      refine ⟨k, 1 + r, rfl, kk1, by omega, by omega, fun H5 p ks g5 kk5 hp plv gks l0 l3 => ?_⟩
      have npk := (kk1.ne hp)
      have gH5 : Gx H H5 := fun b o hb => g5 b o (fun z => by rw [z, hk0] at hb; cases hb) (g4 _ _ hb)
      let mm0 : Msk := ⟨fun _ => False⟩
      have km5 : KeM H5 k := ⟨kk5, nofun⟩
      obtain ⟨xs, hx, pr⟩ := plv
      refine ⟨3, rfl, by decide, by decide, for_it walk_range (fun _ σ H' => ∃ x4, σ = [some (.ref a), some (.int (0 + (i : Int))), some (.ref k), some (.ref p), x4, none, none, none, none] ∧ KSt k H5 H') ⟨_, rfl, .ini km5⟩ (fun _ _ _ _ _ => trivial) (fun j x σ H6 H7 hj hP hY => ?_) (fun σ H6 hP => ?_)⟩
      · obtain ⟨rfl, rfl⟩ := hY
        obtain ⟨x4, rfl, s6⟩ := hP
        refine ⟨_, rfl, _, rfl, _, rfl, _, rfl, k, 11, rfl, s6.kg.kg, by decide, by decide, fun c u1 c0 c1 kg1 => ?_⟩
        have s7 := s6.tap kg1
        generalize upd H7 k u1 = H8 at *
        refine ⟨_, rfl, (by show 2 ≤ sizeLine; decide), fun l hl => ⟨k, l, _, rfl, (s7.grow (.new hl)).kg.kg, upd_same, by decide, by decide, (s7.kg.ne hl).1.symm, fun x hx2 u2 kg2 => ?_⟩⟩
        have s8 := (s7.grow (Gx.new (o := .lst [.int 2, .int 4]) hl)).tap kg2
        obtain ⟨wd, rfl, w0, w1⟩ : ∃ wd : Int, x = .int wd ∧ 0 ≤ wd ∧ wd ≤ 4 := by
          simp only [List.mem_cons, List.not_mem_nil, or_false] at hx2
          rcases hx2 with rfl | rfl
          · exact ⟨2, rfl, by decide, by decide⟩
          · exact ⟨4, rfl, by decide, by decide⟩
        generalize upd (upd H8 l (.lst [.int 2, .int 4])) k u2 = H9 at *
        refine ⟨mm0, k, p, ks, c, wd, rfl, s8.kg, npk, ⟨xs, s8.at' npk hx, Paired.mapP pr fun _ _ z => z.keep (s8.tk km5)⟩, l0, by omega, c0, by omega, w0, by omega, fun H10 v ds s10 hd ld sm => ?_⟩
        have pts : ∀ q ∈ allPts ds, SmallP q := fun q hq => by
          rcases List.mem_cons.mp hq with rfl | hq
          · exact ⟨⟨by decide, by decide⟩, by decide⟩
          · obtain ⟨d, hd', hq⟩ := List.mem_flatMap.mp hq
            obtain ⟨a1, a2, _⟩ := sm d hd'
            simp only [List.mem_cons, List.not_mem_nil, or_false] at hq
            rcases hq with rfl | rfl
            · exact gks _ a1
            · exact gks _ a2
        refine ⟨k, v, ds, rfl, s10.kg.kg, hd, ⟨by omega, fun d hd' => ?_⟩, pts, fun H11 g11 kg11 => ⟨true, rfl, ?_⟩⟩
        · obtain ⟨a1, a2, a3, a4⟩ := sm d hd'
          exact ⟨(gks _ a1).1, (gks _ a2).1, by omega, by omega⟩
        · exact ⟨_, rfl, (s8.step s10).step ⟨g11, kg11, nofun⟩⟩
      · obtain ⟨x4, rfl, s6⟩ := hP
        exact ⟨_, _, _, _, rfl, fun b o hb => s6.at' (fun z => by rw [z, hk0] at hb; cases hb) (gH5 _ _ hb)⟩
    · obtain ⟨x1, x2, x3, x4, rfl, g1⟩ := hP
      have k3 : ∀ {n : Nat}, n ≤ 1000 → n ≤ sizeLine := fun h => line_le h
      dsimp only
      refine ⟨k3 (by decide), fun t1 h1 => ⟨3, rfl, k3 (by decide), fun t2 h2 => ⟨k3 (by decide), fun t3 h3 => ⟨k3 (by decide), fun t4 h4 => ⟨k3 (Nat.le_of_ble_eq_true rfl), fun t5 h5 => ?_⟩⟩⟩⟩⟩
      have d1 := Gx.new (o := .tup [.str "i", .str "j", .int 2]) h1
      have d2 := Gx.new (o := .tup [.str "j", .str "i", .int (-3)]) h2
      have d3 := Gx.new (o := .tup [.str "i", .str "i", .int 0]) h3
      have d4 := Gx.new (o := .tup [.str "j", .str "j", .int 5]) h4
      have d5 := Gx.new (o := .tup [.ref t1, .ref t2, .ref t3, .ref t4]) h5
      have dv : DsV K (upd (upd (upd (upd (upd H1 t1 (.tup [.str "i", .str "j", .int 2])) t2 (.tup [.str "j", .str "i", .int (-3)])) t3 (.tup [.str "i", .str "i", .int 0])) t4 (.tup [.str "j", .str "j", .int 5])) t5 (.tup [.ref t1, .ref t2, .ref t3, .ref t4])) rowsD (.ref t5) :=
        ⟨t5, _, rfl, .inl (.inl upd_same), .cons ⟨t1, _, _, rfl, .inl (.inl ((d2.trans (d3.trans (d4.trans d5))) _ _ upd_same)), rfl, rfl⟩ (.cons ⟨t2, _, _, rfl, .inl (.inl ((d3.trans (d4.trans d5)) _ _ upd_same)), rfl, rfl⟩
          (.cons ⟨t3, _, _, rfl, .inl (.inl ((d4.trans d5) _ _ upd_same)), rfl, rfl⟩ (.cons ⟨t4, _, _, rfl, .inl (.inl (d5 _ _ upd_same)), rfl, rfl⟩ .nil)))⟩
      generalize upd (upd (upd (upd (upd H1 t1 (.tup [.str "i", .str "j", .int 2])) t2 (.tup [.str "j", .str "i", .int (-3)])) t3 (.tup [.str "i", .str "i", .int 0])) t4 (.tup [.str "j", .str "j", .int 5])) t5 (.tup [.ref t1, .ref t2, .ref t3, .ref t4]) = H6 at *
      refine gN_go ?_
      dsimp only
      refine t_asgR (K := K) (cs := ringsL.map fun l => l.map V.int) (fun c hc => ?_) (by decide) fun t6 vs H7 g7 hS7 pr7 => ?_
      · obtain ⟨l, hl', rfl⟩ := List.mem_map.mp hc
        rw [List.length_map]
        have : ∀ l ∈ ringsL, l.length ≤ 1000 := by decide
        exact this l hl'
      have dv7 := dv.keep g7.tk
      have tys : ∀ {H' : Hp} {l : List Int}, ∀ y ∈ l.map V.int, ∃ t, TyA P w K H' y t := fun y hy => by
        obtain ⟨n, _, rfl⟩ := List.mem_map.mp hy
        exact ⟨_, .int n⟩
      refine ⟨_, rfl, t6, rfl, ⟨_, hS7⟩, fun D hD => lc_it (walk_tup (xs := vs)) (PvG H7 D (AMap ringsL fun l => V.bl (ringB rowsD (l.map V.int)))) (PvG.ini hD .ini) (fun _ _ _ h => h.1.seqT hS7) (fun i x H8 H9 hi hP hY => ?_) (fun H8 hP => ?_)⟩
      · obtain ⟨rfl, hx⟩ := hY
        obtain ⟨g, ys, e, am⟩ := hP
        obtain ⟨c, hc, a', ea, hs⟩ := pair_at pr7 hx
        rw [List.getElem?_map] at hc
        obtain ⟨l, hl', rfl⟩ := Option.map_eq_some_iff.mp hc
        have ll : l.length ≤ 1000 := by
          have : ∀ l ∈ ringsL, l.length ≤ 1000 := by decide
          exact this l (List.mem_of_getElem? hl')
        refine ⟨rfl, _, rfl, _, rfl, ⟨_, _, rowsD, rfl, dv7.keep g.tk, rowsD_good, .inl ⟨a', _, ea, g.seqT hs, by rw [List.length_map]; omega, tys, fun H10 g10 => PvG.put (g.trans g10) hD (g10 _ _ e) (line_lt (am.len (n := 100) (by decide))) (am.put hl')⟩⟩⟩
      obtain ⟨g8, ys, e8, am⟩ := hP
      have lvs : vs.length = ringsL.length := by rw [← Paired.length pr7, List.length_map]
      rw [lvs] at am
      have ey := AMap.fin am
      rw [told_is] at ey
      subst ey
      refine ⟨_, rfl, k3 (by decide), fun l9 h9 => ?_⟩
      have g9 := Gx.new (o := .lst [.bl true, .bl true, .bl true, .bl false, .bl true, .bl false, .bl false, .bl false]) h9
      have e9 : (upd H8 l9 (.lst [.bl true, .bl true, .bl true, .bl false, .bl true, .bl false, .bl false, .bl false])) l9 = some (.lst [.bl true, .bl true, .bl true, .bl false, .bl true, .bl false, .bl false, .bl false]) := upd_same
      generalize upd H8 l9 (.lst [.bl true, .bl true, .bl true, .bl false, .bl true, .bl false, .bl false, .bl false]) = H9 at *
      have da : DpAll K H9 [.bl true, .bl true, .bl true, .bl false, .bl true, .bl false, .bl false, .bl false] [.bool true, .bool true, .bool true, .bool false, .bool true, .bool false, .bool false, .bool false] :=
        .cons (.bl _) (.cons (.bl _) (.cons (.bl _) (.cons (.bl _) (.cons (.bl _) (.cons (.bl _) (.cons (.bl _) (.cons (.bl _) .nil)))))))
      refine ⟨_, _, .lst (.inl (.inl (g9 _ _ e8))) da, .lst (.inl (.inl e9)) da, rfl, rfl, true, rfl, ?_⟩
      rw [if_pos rfl]
      have gg := g8.trans g9
      refine ⟨_, rfl, k3 (by decide), fun l10 h10 => .inl ⟨l10, 6, _, rfl, rfl, .inl (.inl upd_same), by simp, by decide, by decide, by decide, fun l11 h11 => ⟨k3 (by decide), fun l12 h12 => ?_⟩⟩⟩
      have g12 := ((Gx.new (o := .tup [.int 0, .int 1]) h10).trans (Gx.new (o := .tup (List.replicate (Int.toNat 6) [V.int 0, .int 1]).flatten) h11)).trans (Gx.new (o := .tup [.int 0, .int 3, .int 1]) h12)
      refine ⟨l11, l12, _, _, rfl, rfl, (Gx.new h12).seqT (.inl (.inl upd_same)), .inl (.inl upd_same), by decide, fun z => absurd z (by decide), fun _ z => (by cases z), fun _ _ l13 h13 => ?_⟩
      have g13 := Gx.new (o := .tup ((List.replicate (Int.toNat 6) [V.int 0, .int 1]).flatten ++ [.int 0, .int 3, .int 1])) h13
      have gA := (gg.trans g12).trans g13
      refine ⟨_, _, rowsD, rfl, dv7.keep gA.tk, rowsD_good, .inl ⟨l13, (List.replicate 6 [V.int 0, .int 1]).flatten ++ [.int 0, .int 3, .int 1], rfl, .inl (.inl upd_same), by decide, fun y hy => ?_, fun H14 g14 => ?_⟩⟩
      · have : ∀ y ∈ (List.replicate 6 [V.int 0, V.int 1]).flatten ++ [.int 0, .int 3, .int 1], ∃ n, y = V.int n := by
          intro y hy
          rcases List.mem_append.mp hy with hy | hy
          · obtain ⟨l, hl', hy⟩ := List.mem_flatten.mp hy
            rw [(List.mem_replicate.mp hl').2] at hy
            simp only [List.mem_cons, List.not_mem_nil, or_false] at hy
            rcases hy with rfl | rfl <;> exact ⟨_, rfl⟩
          · simp only [List.mem_cons, List.not_mem_nil, or_false] at hy
            rcases hy with rfl | rfl | rfl <;> exact ⟨_, rfl⟩
        obtain ⟨n, rfl⟩ := this y hy
        exact ⟨_, .int n⟩
      · rw [long_is]; exact q _
end
end Mk


set_option Elab.async false
set_option linter.all false
set_option maxRecDepth 100000
set_option maxHeartbeats 400000
/-! what the top has written; the law's own head -/
namespace Mk
open PySem PySem.Spec PyProof.Rows L2
theorem def_mk {K : PySem.W.Frag} {h : Heap} {mg : Str → Option Value} {x : Str} {st : Stmt} {ps : List Str} {f : Addr} {od an : Option Addr} {sl : Array (Option Value)} {oc kV dc pm cd ct : Value} (X : K.In h) (G : h.Ns mainGlobals mg)
    (a : PySem.W.nsIn K mainGlobals x = some (some (.ref f))) (l : K.lookup f = some ⟨oc, od, .func (PySem.W.fnOf x x (defArgs st) (defBody st) (defScope st) .none kV dc pm an cd ct), sl⟩) (c : PySem.W.codeIn K cd x = true) (k : PySem.W.keepIn K (.ref f) = true)
    (b : ∀ (F : Fun K x x st f (PySem.W.fnOf x x (defArgs st) (defBody st) (defScope st) .none kV dc pm an cd ct)), Binds K (PySem.W.fnOf x x (defArgs st) (defBody st) (defScope st) .none kV dc pm an cd ct) ps []) : Def K mg x st ps :=
  ⟨f, _, fun_mk (st := st) l c k, PySem.W.mg_of X G a, b (fun_mk (st := st) l c k)⟩
theorem int_mk {K : PySem.W.Frag} {h : Heap} {mg : Str → Option Value} {x : Str} {i : Int} {t : Tok} (X : K.In h) (G : h.Ns mainGlobals mg) (a : PySem.W.nsIn K mainGlobals x = some (some (.int i t))) : IsC mg x (.int i) := ⟨_, PySem.W.mg_of X G a, t, rfl⟩
theorem str_mk {K : PySem.W.Frag} {h : Heap} {mg : Str → Option Value} {x : Str} {i : Str} {t : Tok} (X : K.In h) (G : h.Ns mainGlobals mg) (a : PySem.W.nsIn K mainGlobals x = some (some (.str i t))) : IsC mg x (.str i) := ⟨_, PySem.W.mg_of X G a, t, rfl⟩
theorem all_mk {l : PySem.W.OpenLaw} {w : World} {K : PySem.W.Frag} {h : Heap} {mg : Str → Option Value} {fa : Addr} (X : K.In h) (G : h.Ns mainGlobals mg) (hfa : mg "law" = some (.ref fa))
    {fl : Addr} {odl anl : Option Addr} {sll : Array (Option Value)} {ocl kVl dcl pml cdl ctl : Value}
    (al : PySem.W.nsIn K mainGlobals "law" = some (some (.ref fl))) (ll : K.lookup fl = some ⟨ocl, odl, .func (PySem.W.fnOf "law" "law" (defArgs s_law) (defBody s_law) (defScope s_law) .none kVl dcl pml anl cdl ctl), sll⟩) (cl : PySem.W.codeIn K cdl "law" = true) (kl : PySem.W.keepIn K (.ref fl) = true)
    (D_is_integer : Def K mg "is_integer" s_is_integer ["value"])
    (D_is_name : Def K mg "is_name" s_is_name ["value"])
    (D_is_new : Def K mg "is_new" s_is_new ["value"])
    (D_is_place : Def K mg "is_place" s_is_place ["value"])
    (D_is_point : Def K mg "is_point" s_is_point ["value"])
    (D_is_difference : Def K mg "is_difference" s_is_difference ["value"])
    (D_require_differences : Def K mg "require_differences" s_require_differences ["value"])
    (D_points_of : Def K mg "points_of" s_points_of ["differences"])
    (D_improved : Def K mg "improved" s_improved ["differences", "numbers", "steps"])
    (D_settled : Def K mg "settled" s_settled ["differences", "numbers"])
    (D_ring_in : Def K mg "ring_in" s_ring_in ["differences", "steps"])
    (D_ring_of : Def K mg "ring_of" s_ring_of ["differences"])
    (D_fitted : Def K mg "fitted" s_fitted ["differences"])
    (D_is_ring_of : Def K mg "is_ring_of" s_is_ring_of ["differences", "value"])
    (D_fitting : Def K mg "fitting" s_fitting ["differences"])
    (D_is_fitting : Def K mg "is_fitting" s_is_fitting ["differences", "value"])
    (D_ring : Def K mg "ring" s_ring ["differences"])
    (D_is_ring : Def K mg "is_ring" s_is_ring ["differences", "value"])
    (D__law_keg : Def K mg "_law_keg" s__law_keg ["script", "at"])
    (D__law_tap : Def K mg "_law_tap" s__law_tap ["keg", "total"])
    (D__law_choices : Def K mg "_law_choices" s__law_choices ["keg", "items", "count"])
    (D__law_points_drawn : Def K mg "_law_points_drawn" s__law_points_drawn ["keg", "count"])
    (D__law_points_in : Def K mg "_law_points_in" s__law_points_in ["differences"])
    (D__law_choice : Def K mg "_law_choice" s__law_choice ["keg", "items"])
    (D__law_near_numbers : Def K mg "_law_near_numbers" s__law_near_numbers ["keg", "differences", "numbers"])
    (D__law_drawn_walk : Def K mg "_law_drawn_walk" s__law_drawn_walk ["keg", "differences"])
    (D__law_near_ring : Def K mg "_law_near_ring" s__law_near_ring ["keg", "differences", "found"])
    (D__law_is_whole : Def K mg "_law_is_whole" s__law_is_whole ["value"])
    (D__law_are_true : Def K mg "_law_are_true" s__law_are_true ["differences", "numbers"])
    (D__law_fits_due : Def K mg "_law_fits_due" s__law_fits_due ["differences", "value"])
    (D__law_ring_due : Def K mg "_law_ring_due" s__law_ring_due ["differences", "value"])
    (D__law_right : Def K mg "_law_right" s__law_right ["keg", "differences"])
    (D__law_differences : Def K mg "_law_differences" s__law_differences ["keg", "points", "count", "wide"])
    (T : Tops mg) :
    ∃ fd : FuncData, (∀ (s : Shared) (v : Value), BindsTo s fd ⟨[v], []⟩ [("script", v)]) ∧ ∀ base : Heap, K.In base → base.Ns mainGlobals mg → FnG l.prog w K mg base 8 fa fd ["script"] (spLaw K) := by
  have e := hfa.symm.trans (PySem.W.mg_of X G al)
  cases e
  have F := fun_mk (st := s_law) ll cl kl
  refine ⟨PySem.W.fnOf "law" "law" (defArgs s_law) (defBody s_law) (defScope s_law) .none kVl dcl pml anl cdl ctl, fun s v => .of_eq rfl, fun base _ _ => ?_⟩
  have I_is_integer := Mk.any_is_integer (P := l.prog) (w := w) (base := base) T D_is_integer
  have C_is_integer := Mk.int_of_any I_is_integer
  have C_is_name := Mk.C_is_name (P := l.prog) (w := w) (base := base) T D_is_name
  have C_is_new := Mk.C_is_new (P := l.prog) (w := w) (base := base) T D_is_new
  have C_is_place := Mk.C_is_place (P := l.prog) (w := w) (base := base) T D_is_place C_is_name C_is_new
  have C_is_point := Mk.C_is_point (P := l.prog) (w := w) (base := base) T D_is_point C_is_integer C_is_name C_is_place
  have C_is_difference := Mk.C_is_difference (P := l.prog) (w := w) (base := base) T D_is_difference C_is_integer C_is_point
  have C_require_differences := Mk.C_require_differences (P := l.prog) (w := w) (base := base) T D_require_differences C_is_difference
  have C_points_of := Mk.C_points_of (P := l.prog) (w := w) (base := base) T D_points_of
  have C_improved := Mk.C_improved (P := l.prog) (w := w) (base := base) T D_improved
  have C_settled := Mk.C_settled (P := l.prog) (w := w) (base := base) T D_settled C_points_of C_improved
  have C_ring_in := Mk.C_ring_in (P := l.prog) (w := w) (base := base) T D_ring_in
  have C_ring_of := Mk.C_ring_of (P := l.prog) (w := w) (base := base) T D_ring_of C_points_of C_settled C_ring_in
  have C_fitted := Mk.C_fitted (P := l.prog) (w := w) (base := base) T D_fitted C_points_of C_settled
  have C_is_ring_of := Mk.any_is_ring_of (P := l.prog) (w := w) (base := base) T D_is_ring_of I_is_integer
  have C_fitting := Mk.C_fitting (P := l.prog) (w := w) (base := base) T D_fitting C_require_differences C_fitted
  have C_is_fitting := Mk.any_is_fitting (P := l.prog) (w := w) (base := base) T D_is_fitting C_require_differences C_points_of I_is_integer
  have C_ring := Mk.C_ring (P := l.prog) (w := w) (base := base) T D_ring C_require_differences C_ring_of
  have C_is_ring := Mk.any_is_ring (P := l.prog) (w := w) (base := base) T D_is_ring C_require_differences C_is_ring_of
  have C__law_keg := Mk.C__law_keg (P := l.prog) (w := w) (base := base) T D__law_keg
  have C__law_tap := Mk.C__law_tap (P := l.prog) (w := w) (base := base) T D__law_tap
  have C__law_choices := Mk.C__law_choices (P := l.prog) (w := w) (base := base) T D__law_choices C__law_tap
  have C__law_points_drawn := Mk.C__law_points_drawn (P := l.prog) (w := w) (base := base) T D__law_points_drawn C__law_choices
  have C__law_points_in := Mk.C__law_points_in (P := l.prog) (w := w) (base := base) T D__law_points_in
  have C__law_choice := Mk.any_choice (P := l.prog) (w := w) (base := base) T D__law_choice C__law_tap
  have C__law_near_numbers := Mk.C__law_near_numbers (P := l.prog) (w := w) (base := base) T D__law_near_numbers C__law_tap C__law_choice C__law_points_in
  have C__law_drawn_walk := Mk.any_walk (P := l.prog) (w := w) (base := base) T D__law_drawn_walk C__law_tap C__law_choice
  have C__law_near_ring := Mk.C__law_near_ring (P := l.prog) (w := w) (base := base) T D__law_near_ring C__law_tap C__law_choice
  have C__law_is_whole := Mk.any_is_whole (P := l.prog) (w := w) (base := base) T D__law_is_whole
  have C__law_are_true := Mk.any_are_true (P := l.prog) (w := w) (base := base) T D__law_are_true
  have C__law_fits_due := Mk.any_fits_due (P := l.prog) (w := w) (base := base) T D__law_fits_due C__law_points_in C__law_is_whole C__law_are_true
  have C__law_ring_due := Mk.any_ring_due (P := l.prog) (w := w) (base := base) T D__law_ring_due C__law_is_whole
  have C__law_right := Mk.G__law_right (P := l.prog) (w := w) (base := base) T D__law_right C_fitting C_ring C__law_points_in C__law_tap C__law_choice C__law_near_numbers C__law_drawn_walk C__law_near_ring C__law_fits_due C_is_fitting C__law_ring_due C_is_ring
  have C__law_differences := Mk.C__law_differences (P := l.prog) (w := w) (base := base) T D__law_differences C__law_tap C__law_choice
  exact okG_law (P := l.prog) (w := w) (base := base) F T C__law_keg C__law_tap C__law_choice C__law_points_drawn C__law_right C__law_differences C_is_ring
end Mk


set_option Elab.async false
set_option linter.all false
set_option maxRecDepth 100000
open PySem PySem.W PyProof.Rows
set_option maxHeartbeats 0 in
theorem PySem.Challenge.cw_cellsenough_k23_near_numbers_and_rings_holds : PySem.Challenge.rw_cellsenough_k23_near_numbers_and_rings.Holds := by
  w_on; o_law; k_head; (case hw => w_witness2)
  k_fill
  refine Mk.walk_G (l := PySem.Challenge.rw_cellsenough_k23_near_numbers_and_rings) (n := 63) (k := 8) (x := "script") (sp := fun w => Mk.spLaw _) rfl (by decide) rfl ⟨rfl, by decide, by decide⟩ (fun w h Y => PySem.W.kIn_of Y) ?F (fun _ _ a ns hl _ hS => ⟨a, ns, rfl, hS, hl, fun _ => rfl⟩)
  case F =>
    intro w mg fa h KX G hmg
    refine' Mk.all_mk KX G hmg ?al ?ll ?cl ?kl ?D_is_integer ?D_is_name ?D_is_new ?D_is_place ?D_is_point ?D_is_difference ?D_require_differences ?D_points_of ?D_improved ?D_settled ?D_ring_in ?D_ring_of ?D_fitted ?D_is_ring_of ?D_fitting ?D_is_fitting ?D_ring ?D_is_ring ?D__law_keg ?D__law_tap ?D__law_choices ?D__law_points_drawn ?D__law_points_in ?D__law_choice ?D__law_near_numbers ?D__law_drawn_walk ?D__law_near_ring ?D__law_is_whole ?D__law_are_true ?D__law_fits_due ?D__law_ring_due ?D__law_right ?D__law_differences ?T
    (case al => k_is); (case ll => k_is); (case cl => k_is); (case kl => k_is)
    case D_is_integer =>
      refine' Mk.def_mk KX G ?a ?l ?c ?k (fun F => F.binds (ps := ["value"]) fun _ _ _ _ _ _ us hl => match us, hl with | [_], _ => rfl)
      (case a => k_is); (case l => k_is); (case c => k_is); (case k => k_is)
    case D_is_name =>
      refine' Mk.def_mk KX G ?a ?l ?c ?k (fun F => F.binds (ps := ["value"]) fun _ _ _ _ _ _ us hl => match us, hl with | [_], _ => rfl)
      (case a => k_is); (case l => k_is); (case c => k_is); (case k => k_is)
    case D_is_new =>
      refine' Mk.def_mk KX G ?a ?l ?c ?k (fun F => F.binds (ps := ["value"]) fun _ _ _ _ _ _ us hl => match us, hl with | [_], _ => rfl)
      (case a => k_is); (case l => k_is); (case c => k_is); (case k => k_is)
    case D_is_place =>
      refine' Mk.def_mk KX G ?a ?l ?c ?k (fun F => F.binds (ps := ["value"]) fun _ _ _ _ _ _ us hl => match us, hl with | [_], _ => rfl)
      (case a => k_is); (case l => k_is); (case c => k_is); (case k => k_is)
    case D_is_point =>
      refine' Mk.def_mk KX G ?a ?l ?c ?k (fun F => F.binds (ps := ["value"]) fun _ _ _ _ _ _ us hl => match us, hl with | [_], _ => rfl)
      (case a => k_is); (case l => k_is); (case c => k_is); (case k => k_is)
    case D_is_difference =>
      refine' Mk.def_mk KX G ?a ?l ?c ?k (fun F => F.binds (ps := ["value"]) fun _ _ _ _ _ _ us hl => match us, hl with | [_], _ => rfl)
      (case a => k_is); (case l => k_is); (case c => k_is); (case k => k_is)
    case D_require_differences =>
      refine' Mk.def_mk KX G ?a ?l ?c ?k (fun F => F.binds (ps := ["value"]) fun _ _ _ _ _ _ us hl => match us, hl with | [_], _ => rfl)
      (case a => k_is); (case l => k_is); (case c => k_is); (case k => k_is)
    case D_points_of =>
      refine' Mk.def_mk KX G ?a ?l ?c ?k (fun F => F.binds (ps := ["differences"]) fun _ _ _ _ _ _ us hl => match us, hl with | [_], _ => rfl)
      (case a => k_is); (case l => k_is); (case c => k_is); (case k => k_is)
    case D_improved =>
      refine' Mk.def_mk KX G ?a ?l ?c ?k (fun F => F.binds (ps := ["differences", "numbers", "steps"]) fun _ _ _ _ _ _ us hl => match us, hl with | [_, _, _], _ => rfl)
      (case a => k_is); (case l => k_is); (case c => k_is); (case k => k_is)
    case D_settled =>
      refine' Mk.def_mk KX G ?a ?l ?c ?k (fun F => F.binds (ps := ["differences", "numbers"]) fun _ _ _ _ _ _ us hl => match us, hl with | [_, _], _ => rfl)
      (case a => k_is); (case l => k_is); (case c => k_is); (case k => k_is)
    case D_ring_in =>
      refine' Mk.def_mk KX G ?a ?l ?c ?k (fun F => F.binds (ps := ["differences", "steps"]) fun _ _ _ _ _ _ us hl => match us, hl with | [_, _], _ => rfl)
      (case a => k_is); (case l => k_is); (case c => k_is); (case k => k_is)
    case D_ring_of =>
      refine' Mk.def_mk KX G ?a ?l ?c ?k (fun F => F.binds (ps := ["differences"]) fun _ _ _ _ _ _ us hl => match us, hl with | [_], _ => rfl)
      (case a => k_is); (case l => k_is); (case c => k_is); (case k => k_is)
    case D_fitted =>
      refine' Mk.def_mk KX G ?a ?l ?c ?k (fun F => F.binds (ps := ["differences"]) fun _ _ _ _ _ _ us hl => match us, hl with | [_], _ => rfl)
      (case a => k_is); (case l => k_is); (case c => k_is); (case k => k_is)
    case D_is_ring_of =>
      refine' Mk.def_mk KX G ?a ?l ?c ?k (fun F => F.binds (ps := ["differences", "value"]) fun _ _ _ _ _ _ us hl => match us, hl with | [_, _], _ => rfl)
      (case a => k_is); (case l => k_is); (case c => k_is); (case k => k_is)
    case D_fitting =>
      refine' Mk.def_mk KX G ?a ?l ?c ?k (fun F => F.binds (ps := ["differences"]) fun _ _ _ _ _ _ us hl => match us, hl with | [_], _ => rfl)
      (case a => k_is); (case l => k_is); (case c => k_is); (case k => k_is)
    case D_is_fitting =>
      refine' Mk.def_mk KX G ?a ?l ?c ?k (fun F => F.binds (ps := ["differences", "value"]) fun _ _ _ _ _ _ us hl => match us, hl with | [_, _], _ => rfl)
      (case a => k_is); (case l => k_is); (case c => k_is); (case k => k_is)
    case D_ring =>
      refine' Mk.def_mk KX G ?a ?l ?c ?k (fun F => F.binds (ps := ["differences"]) fun _ _ _ _ _ _ us hl => match us, hl with | [_], _ => rfl)
      (case a => k_is); (case l => k_is); (case c => k_is); (case k => k_is)
    case D_is_ring =>
      refine' Mk.def_mk KX G ?a ?l ?c ?k (fun F => F.binds (ps := ["differences", "value"]) fun _ _ _ _ _ _ us hl => match us, hl with | [_, _], _ => rfl)
      (case a => k_is); (case l => k_is); (case c => k_is); (case k => k_is)
    case D__law_keg =>
      refine' Mk.def_mk KX G ?a ?l ?c ?k (fun F => F.binds (ps := ["script", "at"]) fun _ _ _ _ _ _ us hl => match us, hl with | [_, _], _ => rfl)
      (case a => k_is); (case l => k_is); (case c => k_is); (case k => k_is)
    case D__law_tap =>
      refine' Mk.def_mk KX G ?a ?l ?c ?k (fun F => F.binds (ps := ["keg", "total"]) fun _ _ _ _ _ _ us hl => match us, hl with | [_, _], _ => rfl)
      (case a => k_is); (case l => k_is); (case c => k_is); (case k => k_is)
    case D__law_choices =>
      refine' Mk.def_mk KX G ?a ?l ?c ?k (fun F => F.binds (ps := ["keg", "items", "count"]) fun _ _ _ _ _ _ us hl => match us, hl with | [_, _, _], _ => rfl)
      (case a => k_is); (case l => k_is); (case c => k_is); (case k => k_is)
    case D__law_points_drawn =>
      refine' Mk.def_mk KX G ?a ?l ?c ?k (fun F => F.binds (ps := ["keg", "count"]) fun _ _ _ _ _ _ us hl => match us, hl with | [_, _], _ => rfl)
      (case a => k_is); (case l => k_is); (case c => k_is); (case k => k_is)
    case D__law_points_in =>
      refine' Mk.def_mk KX G ?a ?l ?c ?k (fun F => F.binds (ps := ["differences"]) fun _ _ _ _ _ _ us hl => match us, hl with | [_], _ => rfl)
      (case a => k_is); (case l => k_is); (case c => k_is); (case k => k_is)
    case D__law_choice =>
      refine' Mk.def_mk KX G ?a ?l ?c ?k (fun F => F.binds (ps := ["keg", "items"]) fun _ _ _ _ _ _ us hl => match us, hl with | [_, _], _ => rfl)
      (case a => k_is); (case l => k_is); (case c => k_is); (case k => k_is)
    case D__law_near_numbers =>
      refine' Mk.def_mk KX G ?a ?l ?c ?k (fun F => F.binds (ps := ["keg", "differences", "numbers"]) fun _ _ _ _ _ _ us hl => match us, hl with | [_, _, _], _ => rfl)
      (case a => k_is); (case l => k_is); (case c => k_is); (case k => k_is)
    case D__law_drawn_walk =>
      refine' Mk.def_mk KX G ?a ?l ?c ?k (fun F => F.binds (ps := ["keg", "differences"]) fun _ _ _ _ _ _ us hl => match us, hl with | [_, _], _ => rfl)
      (case a => k_is); (case l => k_is); (case c => k_is); (case k => k_is)
    case D__law_near_ring =>
      refine' Mk.def_mk KX G ?a ?l ?c ?k (fun F => F.binds (ps := ["keg", "differences", "found"]) fun _ _ _ _ _ _ us hl => match us, hl with | [_, _, _], _ => rfl)
      (case a => k_is); (case l => k_is); (case c => k_is); (case k => k_is)
    case D__law_is_whole =>
      refine' Mk.def_mk KX G ?a ?l ?c ?k (fun F => F.binds (ps := ["value"]) fun _ _ _ _ _ _ us hl => match us, hl with | [_], _ => rfl)
      (case a => k_is); (case l => k_is); (case c => k_is); (case k => k_is)
    case D__law_are_true =>
      refine' Mk.def_mk KX G ?a ?l ?c ?k (fun F => F.binds (ps := ["differences", "numbers"]) fun _ _ _ _ _ _ us hl => match us, hl with | [_, _], _ => rfl)
      (case a => k_is); (case l => k_is); (case c => k_is); (case k => k_is)
    case D__law_fits_due =>
      refine' Mk.def_mk KX G ?a ?l ?c ?k (fun F => F.binds (ps := ["differences", "value"]) fun _ _ _ _ _ _ us hl => match us, hl with | [_, _], _ => rfl)
      (case a => k_is); (case l => k_is); (case c => k_is); (case k => k_is)
    case D__law_ring_due =>
      refine' Mk.def_mk KX G ?a ?l ?c ?k (fun F => F.binds (ps := ["differences", "value"]) fun _ _ _ _ _ _ us hl => match us, hl with | [_, _], _ => rfl)
      (case a => k_is); (case l => k_is); (case c => k_is); (case k => k_is)
    case D__law_right =>
      refine' Mk.def_mk KX G ?a ?l ?c ?k (fun F => F.binds (ps := ["keg", "differences"]) fun _ _ _ _ _ _ us hl => match us, hl with | [_, _], _ => rfl)
      (case a => k_is); (case l => k_is); (case c => k_is); (case k => k_is)
    case D__law_differences =>
      refine' Mk.def_mk KX G ?a ?l ?c ?k (fun F => F.binds (ps := ["keg", "points", "count", "wide"]) fun _ _ _ _ _ _ us hl => match us, hl with | [_, _, _, _], _ => rfl)
      (case a => k_is); (case l => k_is); (case c => k_is); (case k => k_is)
    case T =>
      refine' ⟨PySem.W.mg_none_of KX G ?b_abs, PySem.W.mg_none_of KX G ?b_all, PySem.W.mg_none_of KX G ?b_bool, PySem.W.mg_none_of KX G ?b_dict, PySem.W.mg_none_of KX G ?b_enumerate, PySem.W.mg_none_of KX G ?b_int, PySem.W.mg_none_of KX G ?b_isinstance, PySem.W.mg_none_of KX G ?b_iter, PySem.W.mg_none_of KX G ?b_len, PySem.W.mg_none_of KX G ?b_list, PySem.W.mg_none_of KX G ?b_max, PySem.W.mg_none_of KX G ?b_min, PySem.W.mg_none_of KX G ?b_next, PySem.W.mg_none_of KX G ?b_range, PySem.W.mg_none_of KX G ?b_repr, PySem.W.mg_none_of KX G ?b_sorted, PySem.W.mg_none_of KX G ?b_str, PySem.W.mg_none_of KX G ?b_sum, PySem.W.mg_none_of KX G ?b_tuple, Mk.int_mk KX G ?c_MAX_NAME, Mk.int_mk KX G ?c_GREATEST, Mk.str_mk KX G ?c_LETTERS, Mk.int_mk KX G ?c_MAX_DIFFERENCES, Mk.str_mk KX G ?c_ZERO, Mk.str_mk KX G ?c_NEW_MARK, Mk.str_mk KX G ?c_DIGITS⟩
      (case b_abs => k_is)
      (case b_all => k_is)
      (case b_bool => k_is)
      (case b_dict => k_is)
      (case b_enumerate => k_is)
      (case b_int => k_is)
      (case b_isinstance => k_is)
      (case b_iter => k_is)
      (case b_len => k_is)
      (case b_list => k_is)
      (case b_max => k_is)
      (case b_min => k_is)
      (case b_next => k_is)
      (case b_range => k_is)
      (case b_repr => k_is)
      (case b_sorted => k_is)
      (case b_str => k_is)
      (case b_sum => k_is)
      (case b_tuple => k_is)
      (case c_MAX_NAME => k_is)
      (case c_GREATEST => k_is)
      (case c_LETTERS => k_is)
      (case c_MAX_DIFFERENCES => k_is)
      (case c_ZERO => k_is)
      (case c_NEW_MARK => k_is)
      (case c_DIGITS => k_is)
