import PyProof.Rows.All
import Wide.All
import OpenK.AllK
import Wide.FinOn
import PySem.Challenge.RW_cellsenough_k21_whole_tightest_numbers
import HandS.ForMost
import HandS.Flow
import KE.KDictWalk
import KE.KDictKeyed
import HandS.DictComp
import HandS.ListItems
import KE.KDictItemsList
import KE.KDictIter
import KE.SortData
import HandS.Deep
import HandS.TupAny
import HandS.IsInst
import HandS.Walk
import PyProof.NeKinds
import PyProof.Rows.RuleB_pow
import KE.GoesEnum
import HandS.Iter
set_option Elab.async false
set_option linter.all false
set_option maxRecDepth 100000
/-! Dicts whose keys are ints, texts, and tuples of these, together: look-ups and stores at the model's level. -/
namespace Mk
open PySem PySem.Spec PyProof.Rows L2

/-- a key: an int or a text; a tuple of such -/
abbrev PK := Sum Key (List Key)
section
variable (P : Program) (w : World)
/-- the value v is the key -/
def isP (h : Heap) : PK → Value → Prop
  | .inl k, v => keyIs k v = true
  | .inr ks, v => ∃ a, v = .ref a ∧ IsTupleKey (mixKind P w) h ks a
def hashP : PK → Int
  | .inl k => keyH w k
  | .inr ks => tupleKeyHash (mixKind P w) ks
def drawsP : PK → Nat
  | .inl _ => 1
  | .inr ks => ks.length + 1
end
section
variable {P : Program} {w : World} {h h' : Heap} {k k' : PK} {v : Value}
theorem key_val : ∀ {j : Key} {u : Value}, keyIs j u = true → carriedByValue u = true
  | .inl _, _, e => by
    obtain ⟨t, e⟩ := Value.isInt_shape e
    subst e
    rfl
  | .inr _, _, e => by
    obtain ⟨t, e⟩ := Value.isStrOf_shape e
    subst e
    rfl
theorem isP_inj (a : isP P w h k v) (b : isP P w h k' v) : k = k' := by
  cases k with
  | inl j => cases k' with
    | inl j' => rw [(mixKind P w).inj v j j' a b]
    | inr ks =>
      obtain ⟨x, rfl, _⟩ := b
      exact absurd (key_val a) Bool.false_ne_true
  | inr ks =>
    obtain ⟨x, rfl, t⟩ := a
    cases k' with
    | inl j' => exact absurd (key_val b) Bool.false_ne_true
    | inr ks' =>
      obtain ⟨y, e, t'⟩ := b
      cases e
      rw [t.inj t']
theorem isP_keeps {d : Addr} {o : Obj} {es ep} (a : isP P w h k v) (ho : h.get? d = some o) (hd : o.data = .dict es ep) (hs : Heap.SameBut d h h') : isP P w h' k v := by
  cases k with
  | inl j => exact a
  | inr ks =>
    obtain ⟨x, e, t⟩ := a
    exact ⟨x, e, t.keeps ho hd hs⟩
/-- kept where all sequences are kept -/
theorem isP_kept (a : isP P w h k v) (hk : ∀ b o vs n, h.get? b = some o → o.data = .seq vs n → h'.get? b = some o) : isP P w h' k v := by
  cases k with
  | inl j => exact a
  | inr ks =>
    obtain ⟨x, e, o, its, n, h1, h2, h3, h4⟩ := a
    exact ⟨x, e, o, its, n, hk _ _ _ _ h1 h3, h2, h3, h4⟩
theorem isP_str {x : Str} {t : Tok} (a : isP P w h k (.str x t)) (b : isP P w h k' v) : v.isStr x = decide (k' = k) := by
  cases k with
  | inr ks => obtain ⟨_, e, _⟩ := a; cases e
  | inl j =>
    rcases keyIs_shape (show keyIs j (.str x t) = true from a) with ⟨i, tk, e1, e2⟩ | ⟨y, tk, e1, e2⟩
    · cases e2
    · cases e2
      subst e1
      cases k' with
      | inr ks =>
        obtain ⟨z, e, _⟩ := b
        subst e
        rw [decide_eq_false (fun q => nomatch q)]
        rfl
      | inl j' =>
        rcases keyIs_shape (show keyIs j' v = true from b) with ⟨i, tk, e1, e2⟩ | ⟨z, tk, e1, e2⟩
        · subst e1 e2
          rw [decide_eq_false (fun q => nomatch q)]
          rfl
        · subst e1 e2
          by_cases q : z = x
          · subst q
            rw [decide_eq_true rfl]
            simp [Value.isStr]
          · rw [decide_eq_false (fun z' => q (by injection z' with z'; injection z'))]
            simp [Value.isStr, q]
end

section
variable {P : Program} {w : World} {A : Around} {E : Value → Shared → Prop} {s : Shared} {k k' : PK} {u v : Value}
theorem hash_P {Q : Int → Shared → Prop} (hu : A.units < cLine) (hk : isP P w s.heap k v) (hq : Q (hashP P w k) { s with toks := s.toks + drawsP k }) : wpAny (model P w) A (pyHash v) Q E s := by
  cases k with
  | inl j => exact (mixKind P w).pyHash (k := j) hk hq
  | inr ks =>
    obtain ⟨a, e, t⟩ := hk
    subst e
    exact wpAny_pyHash_tuple hu t hq
theorem tup_is {ks : List Key} {a : Addr} (t : IsTupleKey (mixKind P w) s.heap ks a) : ∃ its, s.heap.IsTuple a its := by
  obtain ⟨o, its, n, h1, h2, h3, _⟩ := t
  exact ⟨its, o, h1, h2, n, h3⟩
theorem eq_P {Q : Bool → Shared → Prop} (hu : A.units < cLine) (h1 : isP P w s.heap k u) (h2 : isP P w s.heap k' v) (hq : Q (decide (k = k')) s) : wpAny (model P w) A (eqBool u v) Q E s := by
  cases k with
  | inl j =>
    cases k' with
    | inl j' =>
      refine (mixKind P w).eqBool (a := j) (b := j') h1 h2 ?_
      have e : decide (j = j') = decide ((Sum.inl j : PK) = .inl j') := by
        by_cases q : j = j'
        · rw [decide_eq_true q, decide_eq_true (by rw [q])]
        · rw [decide_eq_false q, decide_eq_false (fun z => q (by injection z))]
      rw [e]
      exact hq
    | inr ks =>
      obtain ⟨a, e, t⟩ := h2
      subst e
      obtain ⟨its, ht⟩ := tup_is t
      rw [decide_eq_false (fun q => nomatch q)] at hq
      rcases keyIs_shape h1 with ⟨i, tk, e1, e2⟩ | ⟨x, tk, e1, e2⟩
      · subst e2
        exact SeqAt.EqAt.int_tuple i tk ht hu _ _ _ _ hq
      · subst e2
        exact SeqAt.EqAt.str_tuple x tk ht hu _ _ _ _ hq
  | inr ks =>
    obtain ⟨a, e, t⟩ := h1
    subst e
    cases k' with
    | inl j' =>
      obtain ⟨its, ht⟩ := tup_is t
      rw [decide_eq_false (fun q => nomatch q)] at hq
      rcases keyIs_shape h2 with ⟨i, tk, e1, e2⟩ | ⟨x, tk, e1, e2⟩
      · subst e2
        exact SeqAt.EqAt.tuple_int i tk ht hu _ _ _ _ hq
      · subst e2
        exact SeqAt.EqAt.tuple_str x tk ht hu _ _ _ _ hq
    | inr ks' =>
      obtain ⟨b, e, t'⟩ := h2
      subst e
      refine wpAny_eqBool_tuple hu t t' ?_
      have e : decide (ks = ks') = decide ((Sum.inr ks : PK) = .inr ks') := by
        by_cases q : ks = ks'
        · rw [decide_eq_true q, decide_eq_true (by rw [q])]
        · rw [decide_eq_false q, decide_eq_false (fun z => q (by injection z))]
      rw [e]
      exact hq
theorem quiet_P {Q : Bool → Shared → Prop} (hk : isP P w s.heap k v) (hq : Q true s) : wpAny (model P w) A (eqIsQuiet 8 v) Q E s := by
  cases k with
  | inl j =>
    rw [eqIsQuiet_byValue 8 (key_val hk)]
    exact wpAny_pure hq
  | inr ks =>
    obtain ⟨a, e, t⟩ := hk
    subst e
    exact wpAny_eqIsQuiet_tuple t hq
/-- no key of these has a telling == -/
theorem quiet_table {key : Value} {stored : List Value} {Q : Bool → Shared → Prop} (hk : isP P w s.heap k key) (hst : ∀ v ∈ stored, ∃ k', isP P w s.heap k' v) (hq : Q false s) :
    wpAny (model P w) A (tableMayTell key stored) Q E s := by
  unfold tableMayTell
  split
  · exact wpAny_pure hq
  · refine wpAny_bind (quiet_P hk ?_)
    rw [if_neg (by decide)]
    refine wpAny_bind (wpAny_forIn_list _ (fun rest r s' => s' = s ∧ r = (none, ()) ∧ ∀ v ∈ rest, ∃ k', isP P w s.heap k' v) _ ?_ ?_ _ _ ⟨rfl, rfl, hst⟩)
    · intro x rest r s' ⟨e1, e2, hr⟩
      subst e1 e2
      obtain ⟨k', hx⟩ := hr x List.mem_cons_self
      refine wpAny_bind (quiet_P hx ?_)
      rw [if_neg (by decide)]
      exact wpAny_pure ⟨rfl, rfl, fun v hv => hr v (List.mem_cons_of_mem _ hv)⟩
    · intro r s' ⟨e1, e2, _⟩
      subst e1 e2
      exact wpAny_pure hq
end
end Mk


set_option Elab.async false
set_option linter.all false
set_option maxRecDepth 100000
/-! look-ups and stores of such dicts, at the model's level -/
namespace Mk
open PySem PySem.Spec PyProof.Rows L2

/-- an entry: its key, the key's value, what it holds -/
abbrev En := PK × Value × Value
def entP (P : Program) (w : World) (x : En) : DictEntry := ⟨hashP P w x.1, x.2.1, x.2.2⟩
/-- at d stands a dict with these entries -/
def DOf (P : Program) (w : World) (h : Heap) (d : Addr) (xs : List En) : Prop :=
  ∃ o es ep, h.get? d = some o ∧ o.ExactDict ∧ o.data = .dict es ep ∧ es.toList = xs.map (entP P w) ∧ (∀ x ∈ xs, isP P w h x.1 x.2.1) ∧ (xs.map (·.1)).Nodup
def lookE (xs : List En) (k : PK) : Option Value := (xs.find? fun x => decide (x.1 = k)).map (·.2.2)
def putE (xs : List En) (k : PK) (u v : Value) : List En :=
  if (lookE xs k).isSome = true then xs.map (fun x => if x.1 = k then (x.1, x.2.1, v) else x) else xs ++ [(k, u, v)]

theorem lookE_of {xs : List En} (hn : (xs.map (·.1)).Nodup) {j : Nat} {x : En} (hx : xs[j]? = some x) : lookE xs x.1 = some x.2.2 := by
  induction xs generalizing j with
  | nil => simp at hx
  | cons y r ih =>
    rw [List.map_cons, List.nodup_cons] at hn
    cases j with
    | zero =>
      have e : y = x := by simpa using hx
      subst e
      simp [lookE]
    | succ i =>
      have hx' : r[i]? = some x := by simpa using hx
      have hne : ¬ y.1 = x.1 := fun e => hn.1 (e ▸ List.mem_map_of_mem (List.mem_of_getElem? hx'))
      have q := ih hn.2 hx'
      simpa [lookE, List.find?_cons, hne] using q
theorem lookE_none {xs : List En} {k : PK} (hno : ∀ (j : Nat) (x : En), xs[j]? = some x → x.1 ≠ k) : lookE xs k = none := by
  have e : (xs.find? fun x => decide (x.1 = k)) = none := by
    rw [List.find?_eq_none]
    intro x hx hk
    obtain ⟨j, hj⟩ := List.mem_iff_getElem?.mp hx
    exact hno j x hj (of_decide_eq_true hk)
  simp [lookE, e]
theorem one_place {xs : List En} (hn : (xs.map (·.1)).Nodup) {i j : Nat} {x y : En} (hx : xs[i]? = some x) (hy : xs[j]? = some y) (e : x.1 = y.1) : i = j := by
  have hi : (xs.map (·.1))[i]? = some x.1 := by rw [List.getElem?_map, hx]; rfl
  have hj : (xs.map (·.1))[j]? = some x.1 := by rw [List.getElem?_map, hy, e]; rfl
  exact (List.getElem?_inj (List.getElem?_eq_some_iff.mp hi).1 hn).mp (hi.trans hj.symm)

section
variable {P : Program} {w : World} {A : Around} {E : Value → Shared → Prop} {s : Shared} {k : PK} {key : Value} {d : Addr} {o : Obj} {es : Array DictEntry} {ep : Nat} {xs : List En}

theorem ent_get (he : es.toList = xs.map (entP P w)) (j : Nat) : es[j]? = (xs[j]?).map (entP P w) := by
  rw [← Array.getElem?_toList, he, List.getElem?_map]
theorem ent_mem (he : es.toList = xs.map (entP P w)) {e : DictEntry} (h : e ∈ es) : ∃ x ∈ xs, e = entP P w x := by
  have q : e ∈ xs.map (entP P w) := he ▸ Array.mem_toList_iff.mpr h
  obtain ⟨x, hx, e'⟩ := List.mem_map.mp q
  exact ⟨x, hx, e'.symm⟩
/-- the places whose hash is the key's: no place twice, and the key's among them -/
theorem places_ok (he : es.toList = xs.map (entP P w)) : (placesWithHash es.size (fun i => es[i]?.map (·.hash)) (hashP P w k)).Nodup ∧
    (∀ i ∈ placesWithHash es.size (fun i => es[i]?.map (·.hash)) (hashP P w k), ∃ x, xs[i]? = some x ∧ hashP P w x.1 = hashP P w k) ∧
    ∀ (j : Nat) (x : En), xs[j]? = some x → x.1 = k → j ∈ placesWithHash es.size (fun i => es[i]?.map (·.hash)) (hashP P w k) := by
  unfold placesWithHash
  refine ⟨List.nodup_range.sublist List.filter_sublist, fun i hi => ?_, fun j x hj e => ?_⟩
  · obtain ⟨h1, h2⟩ := List.mem_filter.mp hi
    have h2' := eq_of_beq h2
    dsimp only at h2'
    rw [ent_get he] at h2'
    cases q : xs[i]? with
    | none => rw [q] at h2'; cases h2'
    | some x =>
      rw [q] at h2'
      exact ⟨x, rfl, Option.some.inj h2'⟩
  · refine List.mem_filter.mpr ⟨List.mem_range.mpr ?_, ?_⟩
    · have hl := (List.getElem?_eq_some_iff.mp hj).1
      have : es.size = xs.length := by rw [← Array.length_toList, he, List.length_map]
      omega
    · dsimp only
      rw [ent_get he, hj, ← e]
      simp [entP]
theorem find_P {Q : Option Nat → Shared → Prop} (hu : A.units < cLine) (hk : isP P w s.heap k key) (ho : s.heap.get? d = some o) (hd : o.data = .dict es ep) (he : es.toList = xs.map (entP P w))
    (his : ∀ x ∈ xs, isP P w s.heap x.1 x.2.1) (hn : (xs.map (·.1)).Nodup) (hno : (∀ (j : Nat) (x : En), xs[j]? = some x → x.1 ≠ k) → Q none s) (hyes : ∀ (j : Nat) (x : En), xs[j]? = some x → x.1 = k → Q (some j) s) :
    wpAny (model P w) A (dictFind d key (hashP P w k)) Q E s := by
  obtain ⟨pn, pm, pa⟩ := places_ok (k := k) he
  unfold dictFind
  try with_reducible refine wpAny_holding ?_
  refine wpAny_bind (wpAny_dictEntries ho hd ?_)
  dsimp only
  -- what stands at a place
  have at_ : ∀ {i : Nat} {x : En}, xs[i]? = some x → es[i]? = some ⟨hashP P w x.1, x.2.1, x.2.2⟩ := fun {i x} hx => by
    rw [ent_get he, hx]
    rfl
  -- the plain walk
  have plain : wpAny (model P w) A (dictWalkPlain d key (hashP P w k) es (placesWithHash es.size (fun i => es[i]?.map (·.hash)) (hashP P w k))) Q E s := by
    unfold dictWalkPlain
    refine wpAny_bind (wpAny_forIn_list _ (fun rest b s' => s' = s ∧ b = (none, ()) ∧ (∀ i ∈ rest, ∃ x, xs[i]? = some x ∧ hashP P w x.1 = hashP P w k) ∧ ∀ (j : Nat) (x : En), xs[j]? = some x → x.1 = k → j ∈ rest) _ ?_ ?_ _ _ ⟨rfl, rfl, pm, pa⟩)
    · intro i rest b s' ⟨e1, e2, h3, h4⟩
      subst e1 e2
      obtain ⟨x, hx, hh⟩ := h3 i List.mem_cons_self
      rw [at_ hx]
      dsimp only
      rw [if_pos (beq_iff_eq.mpr hh)]
      refine wpAny_bind (wpAny_dictEpoch ho hd (wpAny_bind (eq_P hu (his x (List.mem_of_getElem? hx)) hk (wpAny_bind (wpAny_dictEpoch ho hd ?_)))))
      show wpAny _ _ (if (ep != ep) = true then _ else _) _ E _
      rw [if_neg (by simp)]
      by_cases q : x.1 = k
      · rw [decide_eq_true q]
        exact wpAny_bind (wpAny_rule (wpAny_pure (wpAny_pure (hyes i x hx q))))
      · rw [decide_eq_false q]
        refine wpAny_bind (wpAny_rule (wpAny_pure ⟨rfl, rfl, fun j hj => h3 j (List.mem_cons_of_mem _ hj), fun j y hy e => ?_⟩))
        rcases List.mem_cons.mp (h4 j y hy e) with z | z
        · subst z
          rw [hx] at hy
          cases hy
          exact absurd e q
        · exact z
    · intro b s' ⟨e1, e2, _, h4⟩
      subst e1 e2
      exact wpAny_pure (hno fun j x hj e => by simpa using h4 j x hj e)
  have hany : ¬ (es.any fun e => e.key == key && e.hash != hashP P w k) = true := by
    rw [← Array.any_toList, List.any_eq_true]
    intro ⟨e, hin, hc⟩
    obtain ⟨x, hx, e1⟩ := ent_mem he (Array.mem_toList_iff.mp hin)
    subst e1
    rw [Bool.and_eq_true] at hc
    obtain ⟨h1, h2⟩ := hc
    have h1' : x.2.1 = key := eq_of_beq h1
    have q := his x hx
    rw [h1'] at q
    have := isP_inj q hk
    rw [entP, this] at h2
    simp at h2
  have hst : ∀ v ∈ (placesWithHash es.size (fun i => es[i]?.map (·.hash)) (hashP P w k)).filterMap (fun i => es[i]?.map (·.key)), ∃ k', isP P w s.heap k' v := by
    intro v hv
    obtain ⟨i, hi, e⟩ := List.mem_filterMap.mp hv
    obtain ⟨x, hx, _⟩ := pm i hi
    rw [at_ hx] at e
    have e' : x.2.1 = v := Option.some.inj e
    exact ⟨x.1, e' ▸ his x (List.mem_of_getElem? hx)⟩
  have byv : ∀ {x : Str} {t : Tok}, key = .str x t → wpAny (model P w) A (foundByValue d key es x) Q E s := by
    intro x t ek
    have hf : ∀ y ∈ xs, (entP P w y).key.isStr x = decide (y.1 = k) := fun y hy => isP_str (ek ▸ hk) (his y hy)
    unfold foundByValue
    cases q : es.findIdx? (fun e => e.key.isStr x) with
    | none =>
      refine wpAny_pure (hno fun j y hj e => ?_)
      have m : entP P w y ∈ es := Array.mem_of_getElem? (at_ hj)
      have r := Array.findIdx?_eq_none_iff.mp q _ m
      rw [hf y (List.mem_of_getElem? hj), decide_eq_true e] at r
      cases r
    | some i =>
      obtain ⟨hl, hi, _⟩ := Array.findIdx?_eq_some_iff_getElem.mp q
      have hx : ∃ y, xs[i]? = some y := by
        have z : es[i]? = some es[i] := Array.getElem?_eq_getElem hl
        rw [ent_get he] at z
        cases y : xs[i]? with
        | none => rw [y] at z; cases z
        | some y' => exact ⟨y', rfl⟩
      obtain ⟨y, hy⟩ := hx
      have e1 : es[i] = entP P w y := Option.some.inj ((Array.getElem?_eq_getElem hl).symm.trans (at_ hy))
      rw [e1, hf y (List.mem_of_getElem? hy)] at hi
      have e2 : y.1 = k := of_decide_eq_true hi
      dsimp only
      rw [at_ hy]
      dsimp only
      refine wpAny_bind (wpAny_dictEpoch ho hd (wpAny_bind (eq_P hu (his y (List.mem_of_getElem? hy)) hk (wpAny_bind (wpAny_dictEpoch ho hd ?_)))))
      show wpAny _ _ (if (ep != ep) = true then _ else _) _ E _
      rw [if_neg (by simp), decide_eq_true e2]
      exact wpAny_bind (wpAny_rule (wpAny_pure (hyes i y hy e2)))
  have shp : (∃ a, key = .ref a) ∨ (∃ i t, key = .int i t) ∨ ∃ x t, key = .str x t := by
    cases k with
    | inr ks =>
      obtain ⟨a, e, _⟩ := hk
      exact .inl ⟨a, e⟩
    | inl j =>
      rcases keyIs_shape (show keyIs j key = true from hk) with ⟨i, t, _, e⟩ | ⟨x, t, _, e⟩
      · exact .inr (.inl ⟨i, t, e⟩)
      · exact .inr (.inr ⟨x, t, e⟩)
  by_cases hall : ((key :: (placesWithHash es.size (fun i => es[i]?.map (·.hash)) (hashP P w k)).filterMap fun i => es[i]?.map (·.key)).all carriedByValue) = true
  · rcases shp with ⟨a, e⟩ | ⟨i, t, e⟩ | ⟨x, t, e⟩
    · subst e
      rw [if_pos hall]
      exact plain
    · subst e
      dsimp only
      rw [if_pos hall]
      exact plain
    · subst e
      dsimp only
      by_cases hs : (es.all fun e => isExactStrKey e.key) = true
      · rw [if_pos hs]
        exact byv rfl
      · rw [if_neg hs]
        rw [if_pos hall]
        exact plain
  · rcases shp with ⟨a, e⟩ | ⟨i, t, e⟩ | ⟨x, t, e⟩
    · subst e
      dsimp only
      rw [if_neg hall, if_neg hany]
      by_cases h1 : (((placesWithHash es.size (fun i => es[i]?.map (·.hash)) (hashP P w k)).filterMap fun i => es[i]?.map (·.key)) == [Value.ref a]) = true <;>
      (first | rw [if_pos h1] | rw [if_neg h1]) <;> (first | refine wpAny_bind (wpAny_pure ?_) | refine wpAny_bind (quiet_table hk hst ?_)) <;>
      (rw [if_neg (by simp)]
       refine wpAny_bind (wpAny_forIn_list _ (fun rest b s' => s' = s ∧ ∃ hit, b = (none, hit) ∧ rest.Nodup ∧ (∀ i ∈ rest, ∃ x, xs[i]? = some x ∧ hashP P w x.1 = hashP P w k) ∧
         ((hit = none ∧ ∀ (j : Nat) (x : En), xs[j]? = some x → x.1 = k → j ∈ rest) ∨ ∃ j x, hit = some j ∧ xs[j]? = some x ∧ x.1 = k ∧ j ∉ rest)) _ ?_ ?_ _ _ ⟨rfl, none, rfl, pn, pm, .inl ⟨rfl, pa⟩⟩)
       · intro i rest b s' ⟨e1, hit, e2, h2, h3, h4⟩
         subst e1 e2
         rw [List.nodup_cons] at h2
         obtain ⟨x, hx, hh⟩ := h3 i List.mem_cons_self
         have h3' : ∀ i ∈ rest, ∃ x, xs[i]? = some x ∧ hashP P w x.1 = hashP P w k := fun j hj => h3 j (List.mem_cons_of_mem _ hj)
         rw [at_ hx]
         dsimp only
         rw [if_pos (beq_iff_eq.mpr hh)]
         refine wpAny_bind (wpAny_dictEpoch ho hd (wpAny_bind (eq_P hu (his x (List.mem_of_getElem? hx)) hk (wpAny_bind (wpAny_dictEpoch ho hd ?_)))))
         show wpAny _ _ (if (ep != ep) = true then _ else _) _ E _
         rw [if_neg (by simp)]
         by_cases q : x.1 = k
         · rw [decide_eq_true q, if_pos rfl]
           rcases h4 with ⟨e1, h4⟩ | ⟨j, y, e1, hy, ey, hj⟩
           · subst e1
             rw [if_neg (by simp)]
             refine wpAny_bind (wpAny_rule ?_)
             split
             · exact wpAny_pure (wpAny_pure (hyes i x hx q))
             · exact wpAny_pure ⟨rfl, some i, rfl, h2.2, h3', .inr ⟨i, x, rfl, hx, q, h2.1⟩⟩
           · have z : i = j := one_place hn hx hy (q.trans ey.symm)
             exact absurd (z ▸ List.mem_cons_self) hj
         · rw [decide_eq_false q, if_neg (by decide)]
           refine wpAny_bind (wpAny_rule ?_)
           rw [if_neg (by simp)]
           refine wpAny_pure ⟨rfl, hit, rfl, h2.2, h3', ?_⟩
           rcases h4 with ⟨e1, h4⟩ | ⟨j, y, e1, hy, ey, hj⟩
           · refine .inl ⟨e1, fun j y hy ey => ?_⟩
             rcases List.mem_cons.mp (h4 j y hy ey) with z | z
             · subst z
               rw [hx] at hy
               cases hy
               exact absurd ey q
             · exact z
           · exact .inr ⟨j, y, e1, hy, ey, fun z => hj (List.mem_cons_of_mem _ z)⟩
       · intro b s' ⟨e1, hit, e2, _, _, h4⟩
         subst e1 e2
         rcases h4 with ⟨e1, h4⟩ | ⟨j, y, e1, hy, ey, _⟩
         · subst e1
           exact wpAny_pure (hno fun j x hj e => by simpa using h4 j x hj e)
         · subst e1
           exact wpAny_pure (hyes j y hy ey))
    · subst e
      dsimp only
      rw [if_neg hall]
      by_cases h1 : (((placesWithHash es.size (fun i => es[i]?.map (·.hash)) (hashP P w k)).filterMap fun i => es[i]?.map (·.key)) == [Value.int i t]) = true <;>
      (first | rw [if_pos h1] | rw [if_neg h1]) <;> (first | refine wpAny_bind (wpAny_pure ?_) | refine wpAny_bind (quiet_table hk hst ?_)) <;>
      (rw [if_neg (by simp)]
       refine wpAny_bind (wpAny_forIn_list _ (fun rest b s' => s' = s ∧ ∃ hit, b = (none, hit) ∧ rest.Nodup ∧ (∀ i ∈ rest, ∃ x, xs[i]? = some x ∧ hashP P w x.1 = hashP P w k) ∧
         ((hit = none ∧ ∀ (j : Nat) (x : En), xs[j]? = some x → x.1 = k → j ∈ rest) ∨ ∃ j x, hit = some j ∧ xs[j]? = some x ∧ x.1 = k ∧ j ∉ rest)) _ ?_ ?_ _ _ ⟨rfl, none, rfl, pn, pm, .inl ⟨rfl, pa⟩⟩)
       · intro i rest b s' ⟨e1, hit, e2, h2, h3, h4⟩
         subst e1 e2
         rw [List.nodup_cons] at h2
         obtain ⟨x, hx, hh⟩ := h3 i List.mem_cons_self
         have h3' : ∀ i ∈ rest, ∃ x, xs[i]? = some x ∧ hashP P w x.1 = hashP P w k := fun j hj => h3 j (List.mem_cons_of_mem _ hj)
         rw [at_ hx]
         dsimp only
         rw [if_pos (beq_iff_eq.mpr hh)]
         refine wpAny_bind (wpAny_dictEpoch ho hd (wpAny_bind (eq_P hu (his x (List.mem_of_getElem? hx)) hk (wpAny_bind (wpAny_dictEpoch ho hd ?_)))))
         show wpAny _ _ (if (ep != ep) = true then _ else _) _ E _
         rw [if_neg (by simp)]
         by_cases q : x.1 = k
         · rw [decide_eq_true q, if_pos rfl]
           rcases h4 with ⟨e1, h4⟩ | ⟨j, y, e1, hy, ey, hj⟩
           · subst e1
             rw [if_neg (by simp)]
             refine wpAny_bind (wpAny_rule ?_)
             split
             · exact wpAny_pure (wpAny_pure (hyes i x hx q))
             · exact wpAny_pure ⟨rfl, some i, rfl, h2.2, h3', .inr ⟨i, x, rfl, hx, q, h2.1⟩⟩
           · have z : i = j := one_place hn hx hy (q.trans ey.symm)
             exact absurd (z ▸ List.mem_cons_self) hj
         · rw [decide_eq_false q, if_neg (by decide)]
           refine wpAny_bind (wpAny_rule ?_)
           rw [if_neg (by simp)]
           refine wpAny_pure ⟨rfl, hit, rfl, h2.2, h3', ?_⟩
           rcases h4 with ⟨e1, h4⟩ | ⟨j, y, e1, hy, ey, hj⟩
           · refine .inl ⟨e1, fun j y hy ey => ?_⟩
             rcases List.mem_cons.mp (h4 j y hy ey) with z | z
             · subst z
               rw [hx] at hy
               cases hy
               exact absurd ey q
             · exact z
           · exact .inr ⟨j, y, e1, hy, ey, fun z => hj (List.mem_cons_of_mem _ z)⟩
       · intro b s' ⟨e1, hit, e2, _, _, h4⟩
         subst e1 e2
         rcases h4 with ⟨e1, h4⟩ | ⟨j, y, e1, hy, ey, _⟩
         · subst e1
           exact wpAny_pure (hno fun j x hj e => by simpa using h4 j x hj e)
         · subst e1
           exact wpAny_pure (hyes j y hy ey))
    · subst e
      dsimp only
      by_cases hs : (es.all fun e => isExactStrKey e.key) = true
      · rw [if_pos hs]
        exact byv rfl
      rw [if_neg hs]
      rw [if_neg hall]
      by_cases h1 : (((placesWithHash es.size (fun i => es[i]?.map (·.hash)) (hashP P w k)).filterMap fun i => es[i]?.map (·.key)) == [Value.str x t]) = true <;>
      (first | rw [if_pos h1] | rw [if_neg h1]) <;> (first | refine wpAny_bind (wpAny_pure ?_) | refine wpAny_bind (quiet_table hk hst ?_)) <;>
      (rw [if_neg (by simp)]
       refine wpAny_bind (wpAny_forIn_list _ (fun rest b s' => s' = s ∧ ∃ hit, b = (none, hit) ∧ rest.Nodup ∧ (∀ i ∈ rest, ∃ x, xs[i]? = some x ∧ hashP P w x.1 = hashP P w k) ∧
         ((hit = none ∧ ∀ (j : Nat) (x : En), xs[j]? = some x → x.1 = k → j ∈ rest) ∨ ∃ j x, hit = some j ∧ xs[j]? = some x ∧ x.1 = k ∧ j ∉ rest)) _ ?_ ?_ _ _ ⟨rfl, none, rfl, pn, pm, .inl ⟨rfl, pa⟩⟩)
       · intro i rest b s' ⟨e1, hit, e2, h2, h3, h4⟩
         subst e1 e2
         rw [List.nodup_cons] at h2
         obtain ⟨x, hx, hh⟩ := h3 i List.mem_cons_self
         have h3' : ∀ i ∈ rest, ∃ x, xs[i]? = some x ∧ hashP P w x.1 = hashP P w k := fun j hj => h3 j (List.mem_cons_of_mem _ hj)
         rw [at_ hx]
         dsimp only
         rw [if_pos (beq_iff_eq.mpr hh)]
         refine wpAny_bind (wpAny_dictEpoch ho hd (wpAny_bind (eq_P hu (his x (List.mem_of_getElem? hx)) hk (wpAny_bind (wpAny_dictEpoch ho hd ?_)))))
         show wpAny _ _ (if (ep != ep) = true then _ else _) _ E _
         rw [if_neg (by simp)]
         by_cases q : x.1 = k
         · rw [decide_eq_true q, if_pos rfl]
           rcases h4 with ⟨e1, h4⟩ | ⟨j, y, e1, hy, ey, hj⟩
           · subst e1
             rw [if_neg (by simp)]
             refine wpAny_bind (wpAny_rule ?_)
             split
             · exact wpAny_pure (wpAny_pure (hyes i x hx q))
             · exact wpAny_pure ⟨rfl, some i, rfl, h2.2, h3', .inr ⟨i, x, rfl, hx, q, h2.1⟩⟩
           · have z : i = j := one_place hn hx hy (q.trans ey.symm)
             exact absurd (z ▸ List.mem_cons_self) hj
         · rw [decide_eq_false q, if_neg (by decide)]
           refine wpAny_bind (wpAny_rule ?_)
           rw [if_neg (by simp)]
           refine wpAny_pure ⟨rfl, hit, rfl, h2.2, h3', ?_⟩
           rcases h4 with ⟨e1, h4⟩ | ⟨j, y, e1, hy, ey, hj⟩
           · refine .inl ⟨e1, fun j y hy ey => ?_⟩
             rcases List.mem_cons.mp (h4 j y hy ey) with z | z
             · subst z
               rw [hx] at hy
               cases hy
               exact absurd ey q
             · exact z
           · exact .inr ⟨j, y, e1, hy, ey, fun z => hj (List.mem_cons_of_mem _ z)⟩
       · intro b s' ⟨e1, hit, e2, _, _, h4⟩
         subst e1 e2
         rcases h4 with ⟨e1, h4⟩ | ⟨j, y, e1, hy, ey, _⟩
         · subst e1
           exact wpAny_pure (hno fun j x hj e => by simpa using h4 j x hj e)
         · subst e1
           exact wpAny_pure (hyes j y hy ey))
end
end Mk


set_option Elab.async false
set_option linter.all false
set_option maxRecDepth 100000
/-! such dicts: d[k], k in d, d[k] = v, d.get(k), at the model's level -/
namespace Mk
open PySem PySem.Spec PyProof.Rows L2
section
variable {P : Program} {w : World} {A : Around} {E : Value → Shared → Prop} {s : Shared} {k : PK} {key : Value} {d : Addr} {xs : List En}

theorem DOf.ty (hm : DOf P w s.heap d xs) : s.TypeIs (.ref d) "dict" :=
  let ⟨o, _, _, ho, hc, _⟩ := hm
  ⟨o, ho, hc.1⟩
theorem DOf.new (h : Heap) : DOf P w (h.push { cls := .type "dict", data := .dict #[] }) h.objs.size [] :=
  ⟨_, #[], 0, Heap.get?_push_size _ rfl, ⟨rfl, rfl, rfl⟩, rfl, rfl, (fun _ z => by cases z), List.nodup_nil⟩
theorem get_P {Q : Option Value → Shared → Prop} (hu : A.units < cLine) (hk : isP P w s.heap k key) (hm : DOf P w s.heap d xs) (hq : Q (lookE xs k) { s with toks := s.toks + drawsP k }) :
    wpAny (model P w) A (dictGet d key) Q E s := by
  obtain ⟨o, es, ep, ho, _, hd, he, his, hn⟩ := hm
  unfold dictGet
  try with_reducible refine wpAny_holding ?_
  refine wpAny_bind (hash_P hu hk (wpAny_bind (find_P (s := { s with toks := s.toks + drawsP k }) hu hk ho hd he his hn (fun hno => ?_) (fun j x hj e => ?_))))
  · rw [lookE_none hno] at hq
    exact wpAny_pure hq
  · rw [← e, lookE_of hn hj] at hq
    refine wpAny_bind (wpAny_dictEntries (s := { s with toks := s.toks + drawsP k }) ho hd ?_)
    rw [ent_get he, hj]
    exact wpAny_pure (e ▸ hq)
theorem putE_new {u v : Value} (hno : ∀ (j : Nat) (x : En), xs[j]? = some x → x.1 ≠ k) : putE xs k u v = xs ++ [(k, u, v)] := by
  unfold putE
  rw [lookE_none hno]
  rfl
theorem putE_old {u v : Value} (hn : (xs.map (·.1)).Nodup) {j : Nat} {x : En} (hj : xs[j]? = some x) (e : x.1 = k) : putE xs k u v = xs.map (fun x => if x.1 = k then (x.1, x.2.1, v) else x) := by
  unfold putE
  rw [← e, lookE_of hn hj]
  rfl
theorem keys_kept (k : PK) (v : Value) : ∀ xs : List En, (xs.map (fun x => if x.1 = k then (x.1, x.2.1, v) else x)).map (·.1) = xs.map (·.1)
  | [] => rfl
  | x :: r => by
    rw [List.map_cons, List.map_cons, List.map_cons, keys_kept k v r]
    by_cases e : x.1 = k
    · rw [if_pos e]
    · rw [if_neg e]
theorem modify_put {v : Value} : ∀ {xs : List En} {j : Nat} {x : En}, (xs.map (·.1)).Nodup → xs[j]? = some x → x.1 = k →
    (xs.map (entP P w)).modify j (fun e => { e with val := v }) = (xs.map (fun x => if x.1 = k then (x.1, x.2.1, v) else x)).map (entP P w)
  | [], j, x, _, hj, _ => by simp at hj
  | y :: r, j, x, hn, hj, e => by
    rw [List.map_cons, List.nodup_cons] at hn
    cases j with
    | zero =>
      have e1 : y = x := by simpa using hj
      subst e1
      have stay : r.map (fun x => if x.1 = k then (x.1, x.2.1, v) else x) = r := by
        have : ∀ z ∈ r, (fun x : En => if x.1 = k then (x.1, x.2.1, v) else x) z = z := fun z hz => if_neg fun q => hn.1 (by rw [e, ← q]; exact List.mem_map_of_mem hz)
        rw [List.map_congr_left this, List.map_id']
      rw [List.map_cons, List.map_cons, stay, if_pos e]
      rfl
    | succ i =>
      have hj' : r[i]? = some x := by simpa using hj
      have hne : ¬ y.1 = k := fun q => hn.1 (by rw [q, ← e]; exact List.mem_map_of_mem (List.mem_of_getElem? hj'))
      rw [List.map_cons, List.map_cons, if_neg hne, List.map_cons, List.modify_succ_cons, modify_put hn.2 hj' e]
theorem set_P {v : Value} {Q : Unit → Shared → Prop} (hu : A.units < cLine) (hk : isP P w s.heap k key) (hm : DOf P w s.heap d xs) (hz : xs.length ≤ sizeLine)
    (hq : ∀ h', DOf P w h' d (putE xs k key v) → Heap.SameBut d s.heap h' → Q () { s with heap := h', toks := s.toks + drawsP k }) : wpAny (model P w) A (dictSet d key v) Q E s := by
  obtain ⟨o, es, ep, ho, hc, hd, he, his, hn⟩ := hm
  have hsz : es.size = xs.length := by rw [← Array.length_toList, he, List.length_map]
  unfold dictSet
  try with_reducible refine wpAny_holding ?_
  refine wpAny_bind (hash_P hu hk ?_)
  unfold dictSetHashed
  try with_reducible refine wpAny_holding ?_
  refine wpAny_bind (find_P (s := { s with toks := s.toks + drawsP k }) hu hk ho hd he his hn (fun hno => ?_) (fun j x hj e => ?_))
  · refine wpAny_bind (wpAny_rule (wpAny_updateDictKeys (hz := by omega) (s := { s with toks := s.toks + drawsP k }) ho hd (hq _ ⟨_, _, ep + 1, Heap.get?_update_self _ ho (Obj.isFreed_of_dict (Obj.data_mapDictKeys hd _)), hc.mapDictKeys _, Obj.data_mapDictKeys hd _, ?_, ?_, ?_⟩ (Heap.SameBut.update ..))))
    · rw [putE_new hno]
      simp [he, entP]
    · rw [putE_new hno]
      intro x hx
      rcases List.mem_append.mp hx with hx | hx
      · exact isP_keeps (his x hx) ho hd (Heap.SameBut.update ..)
      · have e : x = (k, key, v) := by simpa using hx
        subst e
        exact isP_keeps hk ho hd (Heap.SameBut.update ..)
    · rw [putE_new hno, List.map_append, List.nodup_append]
      refine ⟨hn, by simp, fun x hx y hy e => ?_⟩
      have e1 : y = k := by simpa using hy
      obtain ⟨z, hz', e2⟩ := List.mem_map.mp hx
      obtain ⟨i, hi⟩ := List.mem_iff_getElem?.mp hz'
      exact hno i z hi (e2.trans (e.trans e1))
  · refine wpAny_bind (wpAny_rule (wpAny_bind (wpAny_updateDict (s := { s with toks := s.toks + drawsP k }) ho hd (wpAny_point (hq _ ⟨_, _, ep, Heap.get?_update_self _ ho (Obj.isFreed_of_dict (Obj.data_mapDict hd _)), hc.mapDict _, Obj.data_mapDict hd _, ?_, ?_, ?_⟩ (Heap.SameBut.update ..))))))
    · rw [putE_old hn hj e]
      have q := modify_put (P := P) (w := w) (v := v) hn hj e
      rw [← he] at q
      obtain ⟨l⟩ := es
      simpa using q
    · rw [putE_old hn hj e]
      intro x hx
      obtain ⟨y, hy, e1⟩ := List.mem_map.mp hx
      have q := isP_keeps (his y hy) ho hd (Heap.SameBut.update s.heap d (Obj.mapDict (fun l => l.modify j fun e => { e with val := v })))
      by_cases e2 : y.1 = k
      · rw [if_pos e2] at e1
        subst e1
        exact q
      · rw [if_neg e2] at e1
        subst e1
        exact q
    · rw [putE_old hn hj e, keys_kept]
      exact hn

theorem in_P {Q : Value → Shared → Prop} (hu : A.units + 1 < cLine) (hk : isP P w s.heap k key) (hb : (d == sysModules) = false) (hm : DOf P w s.heap d xs)
    (hq : Q (.bool (lookE xs k).isSome) { s with toks := s.toks + drawsP k }) : wpAny (model P w) A (compareOp .In key (.ref d)) Q E s := by
  have hc : wpAny (model P w) A (contains (.ref d) key) (fun b s' => b = (lookE xs k).isSome ∧ s' = { s with toks := s.toks + drawsP k }) E s := by
    unfold contains
    try with_reducible refine wpAny_holding ?_
    refine wpAny_bind (wpAny_specialOf hm.ty slot_dict_contains.lookup ?_)
    show wpAny _ _ (if (some (Value.builtin "dict.__contains__") == some Value.none) = true then _ else _) _ E s
    rw [if_neg (by rw [beq_builtin_none]; exact Bool.false_ne_true)]
    refine wpAny_bind (wpAny_callSpecialUnlessNone?_slot (name := Str.ofString "__contains__") hm.ty slot_dict_contains (wpAny_call_entry slot_dict_contains hm.ty entry_dict_contains ?_ (args_dict_contains _ _)))
    show wpAny _ _ (dictGet d key >>= _) _ _ s
    refine wpAny_bind (get_P hu hk hm ?_)
    cases q : lookE xs k with
    | some v =>
      show wpAny _ _ (ret (.bool true)) _ _ _
      exact wpAny_pure ⟨_, rfl, wpAny_truthy_bool ⟨rfl, rfl⟩⟩
    | none =>
      show wpAny _ _ (Builtin.Dict.pendingKey? d key >>= _) _ _ _
      exact wpAny_bind (wpAny_pendingKey_other hb (wpAny_pure ⟨_, rfl, wpAny_truthy_bool ⟨rfl, rfl⟩⟩))
  show wpAny _ _ (do return .bool (← contains (.ref d) key)) Q E s
  refine wpAny_bind (wpAny_mono hc (fun b s' ⟨e1, e2⟩ => ?_) fun _ _ z => z)
  subst e1 e2
  exact wpAny_pure hq
theorem notIn_P {Q : Value → Shared → Prop} (hu : A.units + 1 < cLine) (hk : isP P w s.heap k key) (hb : (d == sysModules) = false) (hm : DOf P w s.heap d xs)
    (hq : Q (.bool (!(lookE xs k).isSome)) { s with toks := s.toks + drawsP k }) : wpAny (model P w) A (compareOp .NotIn key (.ref d)) Q E s := by
  have hc : wpAny (model P w) A (contains (.ref d) key) (fun b s' => b = (lookE xs k).isSome ∧ s' = { s with toks := s.toks + drawsP k }) E s := by
    unfold contains
    try with_reducible refine wpAny_holding ?_
    refine wpAny_bind (wpAny_specialOf hm.ty slot_dict_contains.lookup ?_)
    show wpAny _ _ (if (some (Value.builtin "dict.__contains__") == some Value.none) = true then _ else _) _ E s
    rw [if_neg (by rw [beq_builtin_none]; exact Bool.false_ne_true)]
    refine wpAny_bind (wpAny_callSpecialUnlessNone?_slot (name := Str.ofString "__contains__") hm.ty slot_dict_contains (wpAny_call_entry slot_dict_contains hm.ty entry_dict_contains ?_ (args_dict_contains _ _)))
    show wpAny _ _ (dictGet d key >>= _) _ _ s
    refine wpAny_bind (get_P hu hk hm ?_)
    cases q : lookE xs k with
    | some v =>
      show wpAny _ _ (ret (.bool true)) _ _ _
      exact wpAny_pure ⟨_, rfl, wpAny_truthy_bool ⟨rfl, rfl⟩⟩
    | none =>
      show wpAny _ _ (Builtin.Dict.pendingKey? d key >>= _) _ _ _
      exact wpAny_bind (wpAny_pendingKey_other hb (wpAny_pure ⟨_, rfl, wpAny_truthy_bool ⟨rfl, rfl⟩⟩))
  show wpAny _ _ (do return .bool (!(← contains (.ref d) key))) Q E s
  refine wpAny_bind (wpAny_mono hc (fun b s' ⟨e1, e2⟩ => ?_) fun _ _ z => z)
  subst e1 e2
  exact wpAny_pure hq
theorem getItem_P {v : Value} {Q : Value → Shared → Prop} (hu : A.units + 1 < cLine) (hk : isP P w s.heap k key) (hm : DOf P w s.heap d xs) (hv : lookE xs k = some v)
    (hq : Q v { s with toks := s.toks + drawsP k }) : wpAny (model P w) A (getItem (.ref d) key) Q E s := by
  unfold getItem
  try with_reducible refine wpAny_holding ?_
  refine wpAny_bind (wpAny_sequenceKey hm.ty (by decide) ?_)
  refine wpAny_bind (wpAny_callSpecial?_slot (name := Str.ofString "__getitem__") hm.ty slot_dict_getitem (wpAny_call_entry slot_dict_getitem hm.ty entry_dict_getitem ?_ (args_dict_getitem _ _)))
  show wpAny _ _ (dictGet d key >>= _) _ _ s
  refine wpAny_bind (get_P hu hk hm ?_)
  rw [hv]
  exact wpAny_pure ⟨v, rfl, wpAny_pure hq⟩
theorem setItem_P {v : Value} {Q : Unit → Shared → Prop} (hu : A.units + 1 < cLine) (hk : isP P w s.heap k key) (hm : DOf P w s.heap d xs) (hz : xs.length ≤ sizeLine)
    (hq : ∀ h', DOf P w h' d (putE xs k key v) → Heap.SameBut d s.heap h' → Q () { s with heap := h', toks := s.toks + drawsP k }) : wpAny (model P w) A (setItem (.ref d) key v) Q E s := by
  unfold setItem
  try with_reducible refine wpAny_holding ?_
  refine wpAny_bind (wpAny_sequenceKey hm.ty (by decide) ?_)
  refine wpAny_bind (wpAny_callSpecial?_slot (name := Str.ofString "__setitem__") hm.ty slot_dict_setitem (wpAny_call_entry slot_dict_setitem hm.ty entry_dict_setitem ?_ (args_dict_setitem _ _ _)))
  show wpAny _ _ (Builtin.Dict.notOrdered "__setitem__" ⟨[.ref d, key, v], []⟩ >>= _) _ _ s
  refine wpAny_bind (wpAny_notOrdered_dict hm.ty ?_)
  show wpAny _ _ (dictSet d key v >>= _) _ _ s
  exact wpAny_bind (set_P hu hk hm hz fun h' hm' hs' => wpAny_pure ⟨.none, rfl, wpAny_pure (hq h' hm' hs')⟩)
/-- d.get(k) -/
theorem dget_P {Q : Value → Shared → Prop} (hu : A.units + 1 < cLine) (hk : isP P w s.heap k key) (hb : (d == sysModules) = false) (hm : DOf P w s.heap d xs)
    (hq : Q ((lookE xs k).getD .none) { s with toks := s.toks + drawsP k }) : wpAny (model P w) A (call (.builtin "dict.get") [.ref d, key]) Q E s := by
  have M : MeetsIn P w (Builtin.«dict.get» ⟨[.ref d, key], []⟩) (fun A R s => A.units + 1 < cLine ∧ ∃ k xs, isP P w s.heap k key ∧ DOf P w s.heap d xs ∧ R (.ok (.ret ((lookE xs k).getD .none))) { s with toks := s.toks + drawsP k }) :=
    .of_wp fun A R s ⟨hu, k, xs, hk, hm, h⟩ => by
      show wpAny _ _ (dictGet d key >>= _) _ _ s
      refine wpAny_bind (get_P hu hk hm ?_)
      cases q : lookE xs k with
      | some v =>
        rw [q] at h
        exact wpAny_pure ⟨v, rfl, h⟩
      | none =>
        rw [q] at h
        show wpAny _ _ (Builtin.Dict.missed d key >>= _) _ _ _
        exact wpAny_bind (wpAny_missed_other hb (wpAny_pure ⟨.none, rfl, h⟩))
  exact call_meetsIn PySem.F.slot_dict_get hm.ty PySem.F.entry_dict_get (PySem.F.args_dict_get_2 _ _) M ⟨hu, k, xs, hk, hm, hq⟩
end
end Mk


set_option Elab.async false
set_option linter.all false
set_option maxRecDepth 100000
/-! such dicts over the layer: what is known of one, look-ups and stores -/
namespace Mk
open PySem PySem.Spec PyProof.Rows L2

/-- v is the key k in the heap H -/
def KyV (K : PySem.W.Frag) (H : Hp) : PK → V → Prop
  | .inl k, v => v = kV k
  | .inr ks, v => ∃ a, v = .ref a ∧ SqT K H a (ks.map kV)
def rawD (P : Program) (w : World) (d : Addr) (xs : List En) : Heap → Prop := fun h =>
  xs.length ≤ sizeLine ∧ (d == sysModules) = false ∧ ∃ o es ep, h.get? d = some o ∧ o.ExactDict ∧ o.data = .dict es ep ∧ es.toList = xs.map (entP P w) ∧ (xs.map (·.1)).Nodup
abbrev PairE (K : PySem.W.Frag) (H : Hp) : List (PK × V) → List En → Prop :=
  Paired fun (p : PK × V) (x : En) => p.1 = x.1 ∧ RelV p.2 x.2.2 ∧ ∃ y, RelV y x.2.1 ∧ KyV K H p.1 y
/-- at d stands a dict with these keys and values: to be read; to be written -/
def DicR (P : Program) (w : World) (K : PySem.W.Frag) (H : Hp) (d : Addr) (kvs : List (PK × V)) : Prop := ∃ xs, Rd H d (.ext (rawD P w d xs)) ∧ PairE K H kvs xs
def DicW (P : Program) (w : World) (K : PySem.W.Frag) (H : Hp) (d : Addr) (kvs : List (PK × V)) : Prop := ∃ xs, H d = some (.ext (rawD P w d xs)) ∧ PairE K H kvs xs

/-- all that may be read as a tuple stays so -/
def Tk (K : PySem.W.Frag) (H H' : Hp) : Prop := ∀ a xs, SqT K H a xs → SqT K H' a xs
section
variable {P : Program} {w : World} {K : PySem.W.Frag} {H H' H1 H2 : Hp} {d : Addr} {kvs : List (PK × V)} {k : PK} {v : V}
theorem Tk.refl : Tk K H H := fun _ _ h => h
theorem Tk.trans (a : Tk K H H1) (b : Tk K H1 H2) : Tk K H H2 := fun x xs h => b x xs (a x xs h)
theorem Tk.new {p : Addr} {o : HO} (h : H p = none) : Tk K H (upd H p o) := fun a xs q => by
  rcases q with (q | ⟨u, q⟩) | q
  · exact .inl (.inl (by rw [upd_ne (ne_of_none q h)]; exact q))
  · exact .inl (.inr ⟨u, by rw [upd_ne (ne_of_none q h)]; exact q⟩)
  · exact .inr q
theorem mut_ne {p a : Addr} {u : HO} (mu : Mut (H p)) (q : H a = some u) (hu : ¬ Mut (some u)) : a ≠ p := fun z => by
  subst z
  rw [q] at mu
  exact hu mu
theorem Tk.mut {p : Addr} {o : HO} (mu : Mut (H p)) : Tk K H (upd H p o) := fun a xs q => by
  rcases q with (q | ⟨u, q⟩) | q
  · exact .inl (.inl (by rw [upd_ne (mut_ne mu q fun z => z)]; exact q))
  · exact .inl (.inr ⟨u, by rw [upd_ne (mut_ne mu q fun z => z)]; exact q⟩)
  · exact .inr q
theorem KyV.keep (h : KyV K H k v) (t : Tk K H H') : KyV K H' k v := by
  cases k with
  | inl _ => exact h
  | inr ks =>
    obtain ⟨a, e, q⟩ := h
    exact ⟨a, e, t _ _ q⟩
theorem PairE.keep {xs : List En} (h : PairE K H kvs xs) (t : Tk K H H') : PairE K H' kvs xs :=
  Paired.mapP h fun _ _ ⟨a, b, y, c, e⟩ => ⟨a, b, y, c, e.keep t⟩
theorem DicW.r (h : DicW P w K H d kvs) : DicR P w K H d kvs :=
  let ⟨xs, a, b⟩ := h
  ⟨xs, .inl a, b⟩
theorem DicW.keep (h : DicW P w K H d kvs) (e : H' d = H d) (t : Tk K H H') : DicW P w K H' d kvs :=
  let ⟨xs, a, b⟩ := h
  ⟨xs, by rw [e]; exact a, b.keep t⟩
theorem DicR.keep (h : DicR P w K H d kvs) (e : H' d = H d) (t : Tk K H H') : DicR P w K H' d kvs := by
  obtain ⟨xs, a, b⟩ := h
  refine ⟨xs, ?_, b.keep t⟩
  rcases a with a | ⟨o, a⟩
  · exact .inl (by rw [e]; exact a)
  · exact .inr ⟨o, by rw [e]; exact a⟩
theorem DicW.mut (h : DicW P w K H d kvs) : Mut (H d) := by
  obtain ⟨xs, a, b⟩ := h
  rw [a]
  exact True.intro
theorem DicW.ne_none (h : DicW P w K H d kvs) {p : Addr} (n : H p = none) : d ≠ p := by
  obtain ⟨xs, a, b⟩ := h
  exact ne_of_none a n
theorem PairE.len {xs : List En} (h : PairE K H kvs xs) : kvs.length = xs.length := Paired.length h
theorem PairE.look {xs : List En} (h : PairE K H kvs xs) (k : PK) : RelO (valV kvs k) (lookE xs k) := by
  induction h with
  | nil => exact True.intro
  | @cons p x ps xs hp t ih =>
    obtain ⟨h1, h2, _⟩ := hp
    by_cases e : p.1 = k
    · have b : lookE (x :: xs) k = some x.2.2 := by simp [lookE, List.find?_cons, h1.symm.trans e]
      rw [valV_pos e, b]
      exact h2
    · have b : lookE (x :: xs) k = lookE xs k := by simp [lookE, List.find?_cons, show ¬ x.1 = k from fun z => e (h1.trans z)]
      rw [valV_neg e, b]
      exact ih
theorem PairE.put {xs : List En} (h : PairE K H kvs xs) {y : V} {u r : Value} (ky : KyV K H k y) (ry : RelV y u) (rv : RelV v r) : PairE K H (putK kvs k v) (putE xs k u r) := by
  have e : (kvs.any fun kv => decide (kv.1 = k)) = (lookE xs k).isSome := by rw [valV_any, (h.look k).isSome_eq]
  unfold putK putE
  rw [e]
  by_cases q : (lookE xs k).isSome = true
  · rw [if_pos q, if_pos q]
    clear e q
    induction h with
    | nil => exact .nil
    | @cons p x ps xs hp t ih =>
      rw [List.map_cons, List.map_cons]
      refine .cons ?_ ih
      obtain ⟨h1, h2, h3⟩ := hp
      by_cases e : p.1 = k
      · rw [if_pos e, if_pos (h1.symm.trans e)]
        exact ⟨h1, rv, h3⟩
      · rw [if_neg e, if_neg (fun z => e (h1.trans z))]
        exact ⟨h1, h2, h3⟩
  · rw [if_neg q, if_neg q]
    exact Paired.snoc h ⟨rfl, rv, y, ry, ky⟩
end

section
variable {X : Cx} {pins : List (Addr × Obj)} {σ : L2.St} {H : Hp} {s : Shared} {d : Addr} {kvs : List (PK × V)} {k : PK} {y v : V} {u r : Value}
theorem isP_of (I : Inv X pins σ H s) (h : KyV X.K H k y) (ry : RelV y u) : isP X.prog X.w s.heap k u := by
  cases k with
  | inl j =>
    cases h
    exact kV_is (P := X.prog) (w := X.w) ry
  | inr ks =>
    obtain ⟨a, e, q⟩ := h
    subst e
    obtain rfl : u = Value.ref a := ry
    obtain ⟨its, rv, ⟨o, ho, hc, n, hd⟩, _⟩ := I.tuple q
    exact ⟨a, rfl, o, its.toArray, n, ho, hc, hd, by simpa using items_are (P := X.prog) (w := X.w) rv⟩
theorem keys_ok (I : Inv X pins σ H s) : ∀ {kvs : List (PK × V)} {xs : List En}, PairE X.K H kvs xs → ∀ x ∈ xs, isP X.prog X.w s.heap x.1 x.2.1
  | _, _, .nil => fun x hx => by cases hx
  | _, _, .cons hp t => fun x hx => by
    rcases List.mem_cons.mp hx with e | hx
    · subst e
      obtain ⟨e1, _, y, ry, ky⟩ := hp
      exact isP_of I (e1 ▸ ky) ry
    · exact keys_ok I t x hx
theorem dic_of (I : Inv X pins σ H s) (h : DicR X.prog X.w X.K H d kvs) : ∃ xs, DOf X.prog X.w s.heap d xs ∧ PairE X.K H kvs xs ∧ xs.length ≤ sizeLine ∧ (d == sysModules) = false := by
  obtain ⟨xs, a, b⟩ := h
  obtain ⟨⟨z, hb, o, es, ep, h1, h2, h3, h4, h5⟩, _, _⟩ := (show ObjOk X.prog X.w H s.heap d (.ext (rawD X.prog X.w d xs)) from a.ok I.hok)
  exact ⟨xs, ⟨o, es, ep, h1, h2, h3, h4, keys_ok I b, h5⟩, b, z, hb⟩
theorem raw_stay {d : Addr} {xs : List En} : ∀ h1 h2 : Heap, rawD X.prog X.w d xs h1 → (∀ o, h1.get? d = some o → h2.get? d = some o) → rawD X.prog X.w d xs h2 :=
  fun h1 h2 ⟨z, hb, o, es, ep, e1, r⟩ st => ⟨z, hb, o, es, ep, st o e1, r⟩
theorem raw_ok {H' : Hp} {h' : Heap} {xs : List En} (z : xs.length ≤ sizeLine) (hb : (d == sysModules) = false) (hm : DOf X.prog X.w h' d xs) : ObjOk X.prog X.w H' h' d (.ext (rawD X.prog X.w d xs)) := by
  obtain ⟨o, es, ep, h1, h2, h3, h4, _, h5⟩ := hm
  exact ⟨⟨z, hb, o, es, ep, h1, h2, h3, h4, h5⟩, ⟨o, h1⟩, raw_stay⟩
theorem putE_len (xs : List En) (k : PK) (u v : Value) : (putE xs k u v).length ≤ xs.length + 1 := by
  unfold putE
  split
  · rw [List.length_map]
    omega
  · rw [List.length_append, List.length_singleton]
    omega

/-- k in d, k not in d, d[k] -/
def rInD (P : Program) (w : World) (K : PySem.W.Frag) : R2 := fun x y H Q => ∃ d kvs k, y = .ref d ∧ DicR P w K H d kvs ∧ KyV K H k x ∧ Q (.bl (valV kvs k).isSome) H
def rNotInD (P : Program) (w : World) (K : PySem.W.Frag) : R2 := fun x y H Q => ∃ d kvs k, y = .ref d ∧ DicR P w K H d kvs ∧ KyV K H k x ∧ Q (.bl (!(valV kvs k).isSome)) H
def rIxD (P : Program) (w : World) (K : PySem.W.Frag) : R2 := fun x y H Q => ∃ d kvs k v, x = .ref d ∧ DicR P w K H d kvs ∧ KyV K H k y ∧ valV kvs k = some v ∧ Q v H
theorem op_inD (hu : X.A.units + 1 < cLine) : OpR X (compareOp .In) (rInD X.prog X.w X.K) := by
  intro pins s σ H x y u v Q I rx ry ⟨d, kvs, k, e, h, ky, q⟩
  subst e
  obtain rfl : v = Value.ref d := ry
  obtain ⟨xs, hm, hp, _, hb⟩ := dic_of I h
  refine in_P hu (isP_of I ky rx) hb hm ⟨.bl (valV kvs k).isSome, H, I.tok _, ?_, q⟩
  rw [(hp.look k).isSome_eq]
  rfl
theorem op_notInD (hu : X.A.units + 1 < cLine) : OpR X (compareOp .NotIn) (rNotInD X.prog X.w X.K) := by
  intro pins s σ H x y u v Q I rx ry ⟨d, kvs, k, e, h, ky, q⟩
  subst e
  obtain rfl : v = Value.ref d := ry
  obtain ⟨xs, hm, hp, _, hb⟩ := dic_of I h
  refine notIn_P hu (isP_of I ky rx) hb hm ⟨.bl (!(valV kvs k).isSome), H, I.tok _, ?_, q⟩
  rw [(hp.look k).isSome_eq]
  rfl
theorem ix_dic (hu : X.A.units + 1 < cLine) : IxR X (rIxD X.prog X.w X.K) := by
  intro value slice pins s σ H x y u v Q I rx ry ⟨d, kvs, k, z, e, h, ky, hv, q⟩ hs
  subst e
  obtain rfl : u = Value.ref d := rx
  obtain ⟨xs, hm, hp, _, hb⟩ := dic_of I h
  obtain ⟨w', hw, rw'⟩ := RelO.some_of (v := z) (o := lookE xs k) (by rw [← hv]; exact hp.look k)
  exact tail_any hm.ty PySem.F.slot_dict_getitem.lookup (getItem_P hu (isP_of I ky ry) hm hw ⟨z, H, I.tok _, rw', q⟩) hs
/-- d[k] = v -/
def rSetD (P : Program) (w : World) (K : PySem.W.Frag) : TSet := fun o i v H Q => ∃ d kvs k, o = .ref d ∧ DicW P w K H d kvs ∧ KyV K H k i ∧ kvs.length < sizeLine ∧
  ∀ u, DicW P w K (upd H d u) d (putK kvs k v) → Q (upd H d u)
theorem set_dic (hu : X.A.units + 1 < cLine) : PSet X (rSetD X.prog X.w X.K) := by
  intro pins s σ H o i v ov iv uv Q I ro ri rv ⟨d, kvs, k, e, h, ky, hl, q⟩
  subst e
  obtain rfl : ov = Value.ref d := ro
  obtain ⟨xs, a, b⟩ := id h
  obtain ⟨⟨z, hb, o, es, ep, h1, h2, h3, h4, h5⟩, _, _⟩ := (show ObjOk X.prog X.w H s.heap d (.ext (rawD X.prog X.w d xs)) from I.hok d _ a)
  have hm : DOf X.prog X.w s.heap d xs := ⟨o, es, ep, h1, h2, h3, h4, keys_ok I b, h5⟩
  refine setItem_P hu (isP_of I ky ri) hm z fun h' hm' hs => ?_
  have hz' : (putE xs k iv uv).length ≤ sizeLine := by
    have := putE_len xs k iv uv
    have := b.len
    omega
  have he : ∃ q, h'.get? d = some q := let ⟨q, _, _, hq, _⟩ := hm'; ⟨q, hq⟩
  have mu : Mut (H d) := h.mut
  refine ⟨_, d_write (ob := .ext (rawD X.prog X.w d (putE xs k iv uv))) I mu hs he (raw_ok hz' hb hm'), q _ ⟨_, upd_same, ?_⟩⟩
  exact (b.put ky ri rv).keep (Tk.mut mu)
/-- d.get(k) -/
def rGetD (P : Program) (w : World) (K : PySem.W.Frag) : V → List V → Hp → VK → Prop := fun x vs H Q => ∃ d kvs k y, x = .ref d ∧ vs = [y] ∧ DicR P w K H d kvs ∧ KyV K H k y ∧ Q ((valV kvs k).getD .non) H
theorem mt_dget (hu : X.A.units + 1 < cLine) : MtR X "dict.get" (rGetD X.prog X.w X.K) := by
  intro pins s σ H x vs u us Q I rx rs ⟨d, kvs, k, y, e, e2, h, ky, q⟩
  subst e e2
  obtain rfl : u = Value.ref d := rx
  obtain ⟨uy, eu, ry⟩ := vals1 rs
  subst eu
  obtain ⟨xs, hm, hp, _, hb⟩ := dic_of I h
  exact dget_P hu (isP_of I ky ry) hb hm ⟨(valV kvs k).getD .non, H, I.tok _, (hp.look k).getD rfl, q⟩
/-- a dict of texts and ints, just made, goes on as one of these -/
def tToP (P : Program) (w : World) (K : PySem.W.Frag) (t : TE) : TE := fun σ H Q => t σ H fun v H1 => ∃ d kvs, v = .ref d ∧ H1 d = some (.dK kvs) ∧ ∀ u, DicW P w K (upd H1 d u) d (kvs.map fun kv => (Sum.inl kv.1, kv.2)) → Q v (upd H1 d u)
end
end Mk


set_option Elab.async false
set_option linter.all false
set_option maxRecDepth 100000
/-! such dicts: {} and displays of texts, len, walks over keys, next(iter(d), None) -/
namespace Mk
open PySem PySem.Spec PyProof.Rows L2

section
variable {P : Program} {w : World} {K : PySem.W.Frag} {H : Hp}
theorem ents_of : ∀ {es : List DictEntry} {vs : List (Key × Value)} {kvs : List (Key × V)}, Pairs (mixKind P w) es vs → (∀ e ∈ es, ∃ k, (mixKind P w).is k e.key = true ∧ e.hash = (mixKind P w).hash k) → KV kvs vs →
    ∃ xs : List En, es = xs.map (entP P w) ∧ PairE K H (kvs.map fun kv => (Sum.inl kv.1, kv.2)) xs ∧ xs.map (·.1) = (vs.map (·.1)).map Sum.inl
  | _, _, _, .nil, _, .nil => ⟨[], rfl, .nil, rfl⟩
  | _, _, _, .cons (e := e) (kv := kv) (es := es) h1 h2 t, hk, .cons (a := p) hp tp => by
    obtain ⟨xs, e1, e2, e3⟩ := ents_of t (fun e he => hk e (List.mem_cons_of_mem _ he)) tp
    obtain ⟨k, hk1, hk2⟩ := hk e List.mem_cons_self
    have ek : kv.1 = k := (mixKind P w).inj _ _ _ h1 hk1
    subst ek
    refine ⟨(.inl kv.1, e.key, e.val) :: xs, ?_, ?_, ?_⟩
    · rw [List.map_cons, e1]
      congr 1
      show e = ⟨hashP P w (.inl kv.1), e.key, e.val⟩
      rw [show hashP P w (.inl kv.1) = e.hash from hk2.symm]
    · rw [List.map_cons]
      refine .cons ⟨?_, ?_, kV p.1, ?_, rfl⟩ e2
      · rw [hp.1]
      · show L2.RelV p.2 e.val
        rw [h2]
        exact hp.2
      · rw [hp.1]
        rcases keyIs_shape (show keyIs kv.1 e.key = true from h1) with ⟨i, tk, q1, q2⟩ | ⟨x, tk, q1, q2⟩
        · rw [q1, q2]
          exact ⟨tk, rfl⟩
        · rw [q1, q2]
          exact ⟨tk, rfl⟩
    · rw [List.map_cons, List.map_cons, List.map_cons, e3]
theorem nodup_inl {ks : List Key} (h : ks.Nodup) : (ks.map (Sum.inl : Key → PK)).Nodup := by
  refine List.Pairwise.map _ (fun a b hab => ?_) h
  intro e
  injection e with e
  exact hab e
end

section
variable {X : Cx} {pins : List (Addr × Obj)} {σ : L2.St} {H : Hp} {s : Shared} {d : Addr}
/-- a dict of texts and ints is one of these -/
theorem Inv.toP {kvs : List (Key × V)} (I : L2.Inv X pins σ H s) (h : H d = some (.dK kvs)) : ∃ u, L2.Inv X pins σ (upd H d u) s ∧ DicW X.prog X.w X.K (upd H d u) d (kvs.map fun kv => (Sum.inl kv.1, kv.2)) := by
  obtain ⟨z, hb, vs, rel, o, es, ep, h1, h2, h3, h4, h5, h6⟩ := dk_of I.hok h
  obtain ⟨xs, e1, e2, e3⟩ := ents_of (K := X.K) (H := H) h5 (fun e he => h4 e (Array.mem_toList_iff.mp he)) rel
  have hn : (xs.map (·.1)).Nodup := by rw [e3]; exact nodup_inl h6
  have hl : xs.length ≤ sizeLine := by
    have := e2.len
    rw [List.length_map] at this
    omega
  have mu : Mut (H d) := by rw [h]; exact True.intro
  have new : ObjOk X.prog X.w (upd H d (.ext (rawD X.prog X.w d xs))) s.heap d (.ext (rawD X.prog X.w d xs)) := ⟨⟨hl, hb, o, es, ep, h1, h2, h3, e1, hn⟩, ⟨o, h1⟩, raw_stay⟩
  exact ⟨.ext (rawD X.prog X.w d xs), I.write (x := d) (e := d) (t' := s.toks) (h' := s.heap) mu (.inl rfl) (fun _ _ _ q => q) ⟨o, h1⟩ new, xs, upd_same, e2.keep (Tk.mut mu)⟩
theorem pe_toP {e : Expr} {t : TE} (h : PE X e t) : PE X e (tToP X.prog X.w X.K t) := by
  refine ⟨fun pins s σ H Q I hw => ?_⟩
  refine thn (h.run pins s σ H _ I hw) fun v s1 ⟨x, H1, I1, r, d, kvs, ex, hd, q⟩ => ?_
  subst ex
  obtain ⟨u, I2, hu⟩ := Inv.toP I1 hd
  exact ⟨.ref d, _, I2, r, q u hu⟩

/-- len(d) -/
def rLenD (P : Program) (w : World) (K : PySem.W.Frag) : List V → Hp → VK → Prop := fun vs H Q => ∃ d kvs, vs = [.ref d] ∧ DicR P w K H d kvs ∧ Q (.int kvs.length) H
theorem DOf.raw {P : Program} {w : World} {h : Heap} {xs : List En} (hm : DOf P w h d xs) : ∃ es ep, h.DictRaw d es ep ∧ es.size = xs.length ∧ ∀ i : Nat, es[i]? = (xs[i]?).map (entP P w) := by
  obtain ⟨o, es, ep, h1, h2, h3, h4, h5, h6⟩ := hm
  exact ⟨es, ep, ⟨o, h1, h2, h3⟩, by rw [← Array.length_toList, h4, List.length_map], ent_get h4⟩
theorem call_lenD : CallR X (.builtin "len") (rLenD X.prog X.w X.K) := by
  intro pins s σ H xs us Q I r ⟨d, kvs, e, h, q⟩
  subst e
  obtain ⟨u, eu, rx⟩ := vals1 r
  subst eu
  obtain rfl : u = .ref d := rx
  obtain ⟨xs, hm, hp, z, hb⟩ := dic_of I h
  obtain ⟨es, ep, hr, hs, _⟩ := hm.raw
  have e1 : es.size = kvs.length := by rw [hs, hp.len]
  refine PyProof.Rows.call_len_slot (n := kvs.length) hm.ty PySem.F.slot_dict_len (fun Q' hq => call_len_raw hb hr (by rw [e1]; exact hq)) (by omega) (by have := hp.len; rw [sizeLine_eq] at z; omega) ?_
  exact ⟨.int kvs.length, H, I.tok _, ⟨_, rfl⟩, q⟩
end

/-! ### walks over the keys -/
/-- the keys of the dict at d, which is locked -/
def ItD (P : Program) (w : World) (K : PySem.W.Frag) (d : Addr) (o : Obj) (xs : List En) (kvs : List (PK × V)) : It :=
  ⟨fun i H => H d = some (.frz o (.ext (rawD P w d xs))) ∧ PairE K H kvs xs ∧ i < kvs.length, fun i H x H' => H' = H ∧ ∃ k v, kvs[i]? = some (k, v) ∧ KyV K H k x,
    fun i H => H d = some (.frz o (.ext (rawD P w d xs))) ∧ PairE K H kvs xs ∧ kvs.length ≤ i⟩
theorem PairE.at {K : PySem.W.Frag} {H : Hp} : ∀ {kvs : List (PK × V)} {xs : List En} {i : Nat} {p : PK × V}, PairE K H kvs xs → kvs[i]? = some p → ∃ x, xs[i]? = some x ∧ p.1 = x.1 ∧ L2.RelV p.2 x.2.2 ∧ ∃ y, L2.RelV y x.2.1 ∧ KyV K H p.1 y
  | _, _, _, _, .nil, e => by simp at e
  | _, _, 0, p, .cons h t, e => by
    have e' := Option.some.inj (show some _ = some p from by simpa using e)
    subst e'
    exact ⟨_, rfl, h⟩
  | _, _, i + 1, p, .cons h t, e => by
    obtain ⟨x, hx, r⟩ := PairE.at (i := i) (p := p) t (by simpa using e)
    exact ⟨x, by simpa using hx, r⟩
section
variable {P : Program} {w : World} {K : PySem.W.Frag} {tg : Expr} {d : Addr} {o : Obj} {es : Array DictEntry} {ep : Nat} {xs : List En} {kvs : List (PK × V)}
theorem turn_dic (it : Addr) (hod : o.data = .dict es ep) : Turn P w K tg (ItD P w K d o xs kvs) [it] it (fun i h => h.IsKeyIter it d i kvs.length ep) where
  mem := by simp
  obj := fun i h st b hb => by
    have e : b = it := by simpa using hb
    subst e
    obtain ⟨oi, e, c, dd⟩ := st
    exact ⟨oi, e, fun v z => by rw [dd] at z; cases z⟩
  keep := fun i h h' st k => st.at fun oi e => k it (by simp) oi e
  item := by
    intro X hP hw hK hc i pins s σ H E I hf st ⟨hd, hp, hi⟩
    subst hP hw hK
    obtain ⟨f0, f1, f2, f3, f4, f5⟩ := hf it (by simp)
    obtain ⟨e0, ⟨z, hb, o', es', ep', h1, h2, h3, h4, h5⟩, _, _⟩ := (show ObjOk X.prog X.w H s.heap d (.frz o (.ext (rawD X.prog X.w d xs))) from I.hok d _ hd)
    rw [e0] at h1
    cases h1
    obtain ⟨q1, q2⟩ := dict_ep hod h3
    subst q1 q2
    obtain ⟨p, hkv⟩ : ∃ p, kvs[i]? = some p := ⟨kvs[i], List.getElem?_eq_getElem hi⟩
    obtain ⟨x, hx, e1, e2, y, ry, ky⟩ := hp.at hkv
    have hsz : es'.size = kvs.length := by rw [← Array.length_toList, h4, List.length_map, hp.len]
    have hlt : i < es'.size := by omega
    rw [← hsz] at st
    refine wpAny_pyNext_keys_item_raw st ⟨o, e0, h2, h3⟩ hlt fun h' st' sb => ?_
    have I1 : L2.Inv X pins σ H { s with heap := h' } := I.turned (t' := s.toks) (fun b ob hb e => (sb.2 b hb).trans e) f0 f1 f3 f4 f5
    obtain ⟨oi, e, c, dd⟩ := id st'
    have ek : es'[i].key = x.2.1 := by
      have q := ent_get h4 i
      rw [Array.getElem?_eq_getElem hlt, hx] at q
      rw [Option.some.inj q]
      rfl
    refine ⟨es'[i].key, rfl, go_of (s := { s with heap := h' }) e c dd (by decide) ⟨y, H, I1, by rw [ek]; exact ry, ⟨rfl, p.1, p.2, hkv, ky⟩, ?_, fun b hb => (hf b hb).1⟩⟩
    show h'.IsKeyIter it d (i + 1) kvs.length _
    rw [← hsz]
    exact st'
  done := by
    intro X hP hw hK hc i pins s σ H E I hf st ⟨hd, hp, hi⟩
    subst hP hw hK
    obtain ⟨f0, f1, f2, f3, f4, f5⟩ := hf it (by simp)
    obtain ⟨e0, ⟨z, hb, o', es', ep', h1, h2, h3, h4, h5⟩, _, _⟩ := (show ObjOk X.prog X.w H s.heap d (.frz o (.ext (rawD X.prog X.w d xs))) from I.hok d _ hd)
    rw [e0] at h1
    cases h1
    obtain ⟨q1, q2⟩ := dict_ep hod h3
    subst q1 q2
    have hsz : es'.size = kvs.length := by rw [← Array.length_toList, h4, List.length_map, hp.len]
    rw [← hsz] at st
    exact wpAny_pyNext_keys_end_raw (I.ok.hd hc) st ⟨o, e0, h2, h3⟩ (by omega) fun h' eb => ⟨rfl, I.turned (t' := s.toks) (fun b ob hb e => eb b ob hb e) f0 f1 f3 f4 f5⟩
  self := fun A i s Q E st h => wpAny_pyIter_keyiter st h
end
def iDic (P : Program) (w : World) (K : PySem.W.Frag) (td : TE) : TI := fun σ H R => td σ H fun x H1 => ∃ d o xs kvs, x = .ref d ∧ H1 d = some (.frz o (.ext (rawD P w d xs))) ∧ PairE K H1 kvs xs ∧ R (ItD P w K d o xs kvs) H1
section
variable {X : Cx} {tg e : Expr} {td : TE}
theorem pi_dic (he : PE X e td) : PI X tg e (iDic X.prog X.w X.K td) := by
  refine ⟨fun pins s σ H R I h => ?_⟩
  refine thn (he.run pins s σ H _ I h) fun u s1 ⟨x, H1, I1, rx, d, o, xs, kvs, ex, hd, hp, q⟩ => ?_
  subst ex
  obtain rfl : u = Value.ref d := rx
  obtain ⟨e0, ⟨z, hb, o', es, ep, h1, h2, h3, h4, h5⟩, _, _⟩ := (show ObjOk X.prog X.w H1 s1.heap d (.frz o (.ext (rawD X.prog X.w d xs))) from I1.hok d _ hd)
  rw [e0] at h1
  cases h1
  have hsz : es.size = kvs.length := by rw [← Array.length_toList, h4, List.length_map, hp.len]
  refine iter_keys hb e0 h2 h3 (pi_one (tk := s1.toks) I1 _ (turn_dic (kvs := kvs) (xs := xs) _ h3) ⟨_, Heap.get?_push_size _ rfl, rfl, ?_⟩ q)
  rw [hsz] <;> rfl
end

/-- a for over the keys of a locked dict -/
theorem for_dic {P : Program} {w : World} {K : PySem.W.Frag} {d : Addr} {o : Obj} {xs : List En} {kvs : List (PK × V)} {g : TG} {tb : TS} {D : Ends} {σ : L2.St} {H : Hp} (Pv : Nat → L2.St → Hp → Prop) (h0 : Pv 0 σ H)
    (hl : ∀ i σ H, i ≤ kvs.length → Pv i σ H → H d = some (.frz o (.ext (rawD P w d xs))) ∧ PairE K H kvs xs)
    (hs : ∀ i k v x σ H, kvs[i]? = some (k, v) → KyV K H k x → Pv i σ H → g x σ H fun σ2 H2 => tb { D with nx := Pv (i + 1), ct := Pv (i + 1), bk := D.nx } σ2 H2) (hd : ∀ σ H, Pv kvs.length σ H → D.nx σ H) :
    ∃ W : Nat → Nat → L2.St → Hp → Prop, (∃ m, W 0 m σ H) ∧ ∀ i m σ H, W i m σ H →
      ((ItD P w K d o xs kvs).stop i H ∧ D.nx σ H) ∨ ((ItD P w K d o xs kvs).go i H ∧ ∃ N : L2.St → Hp → Prop, (∀ σ' H', N σ' H' → ∃ m', m' < m ∧ W (i + 1) m' σ' H') ∧
        ∀ x H', (ItD P w K d o xs kvs).yld i H x H' → g x σ H' fun σ2 H2 => tb { D with nx := N, ct := N, bk := D.nx } σ2 H2) := by
  refine ⟨fun i m σ H => m = kvs.length - i ∧ i ≤ kvs.length ∧ Pv i σ H, ⟨kvs.length, by simp, Nat.zero_le _, h0⟩, ?_⟩
  intro i m σ H ⟨em, hi, p⟩
  subst em
  obtain ⟨a, b⟩ := hl i σ H hi p
  by_cases hlt : i < kvs.length
  · refine .inr ⟨⟨a, b, hlt⟩, Pv (i + 1), fun σ' H' p' => ⟨kvs.length - (i + 1), by omega, rfl, hlt, p'⟩, fun x H' ⟨e, k, v, hk, ky⟩ => ?_⟩
    subst e
    exact hs i k v x σ _ hk ky p
  · have e : i = kvs.length := by omega
    subst e
    exact .inl ⟨⟨a, b, Nat.le_refl _⟩, hd σ H p⟩
end Mk


set_option Elab.async false
set_option linter.all false
set_option maxRecDepth 100000
set_option maxHeartbeats 1000000
/-! such dicts: comprehensions, next(iter(d), None) -/
namespace Mk
open PySem PySem.Spec PyProof.Rows L2

section
variable {X : Cx} {pins : List (Addr × Obj)} {σ : L2.St} {H : Hp} {s : Shared} {d : Addr}
theorem raw_new (h : Heap) (hb : sysModules < h.objs.size) {H' : Hp} : ObjOk X.prog X.w H' (h.push { cls := .type "dict", data := .dict #[] }) h.objs.size (.ext (rawD X.prog X.w h.objs.size [])) :=
  raw_ok (Nat.zero_le _) (beq_eq_false_iff_ne.mpr (Ne.symm (Nat.ne_of_lt hb))) (DOf.new h)
/-- the store of a comprehension's turn -/
theorem dic_store {E : Value → Shared → Prop} {kvs : List (PK × V)} {k : PK} {y v : V} {u r : Value} {N : Hp → Prop} (hu : X.A.units < cLine) (I : L2.Inv X pins σ H s) (h : DicW X.prog X.w X.K H d kvs) (ky : KyV X.K H k y) (hl : kvs.length < sizeLine)
    (ry : L2.RelV y u) (rv : L2.RelV v r) (q : ∀ z, DicW X.prog X.w X.K (upd H d z) d (putK kvs k v) → N (upd H d z)) :
    wpAny (model X.prog X.w) X.A (dictSet d u r) (fun _ s' => ∃ H', L2.Inv X pins σ H' s' ∧ N H') E s := by
  obtain ⟨xs, a, b⟩ := id h
  obtain ⟨⟨z, hb, o, es, ep, h1, h2, h3, h4, h5⟩, _, _⟩ := (show ObjOk X.prog X.w H s.heap d (.ext (rawD X.prog X.w d xs)) from I.hok d _ a)
  refine set_P hu (isP_of I ky ry) ⟨o, es, ep, h1, h2, h3, h4, keys_ok I b, h5⟩ z fun h' hm' hs => ?_
  have hz : (putE xs k u r).length ≤ sizeLine := by
    have := putE_len xs k u r
    have := b.len
    omega
  have he : ∃ q, h'.get? d = some q := let ⟨q, _, _, hq, _⟩ := hm'; ⟨q, hq⟩
  exact ⟨_, d_write (ob := .ext (rawD X.prog X.w d (putE xs k u r))) I h.mut hs he (raw_ok hz hb hm'), q _ ⟨_, upd_same, (b.put ky ry rv).keep (Tk.mut h.mut)⟩⟩
end

/-- {k: v for target in iter if ..}, D the new dict -/
def tDcP (P : Program) (w : World) (K : PySem.W.Frag) (wi : TI) (g : TG) (tt : TT) (tk tv : TE) (vs : List Nat) : TE := fun σ H Q => wi σ H fun J H1 => ∀ D u, H1 D = none → DicW P w K (upd H1 D u) D [] →
  ∃ W : Nat → Nat → Hp → Prop, (∃ m, W 0 m (upd H1 D u)) ∧ ∀ i m H, W i m H → (J.stop i H ∧ Q (.ref D) H) ∨
    (J.go i H ∧ ∃ Nx : Hp → Prop, (∀ H', Nx H' → ∃ m', m' < m ∧ W (i + 1) m' H') ∧ ∀ x H', J.yld i H x H' → g x (wipe σ vs) H' fun σ2 H2 => wipe σ2 vs = wipe σ vs ∧ tt σ2 H2 fun b H3 =>
      if b = true then tk σ2 H3 fun y H4 => tv σ2 H4 fun z H5 => ∃ kvs k, KyV K H5 k y ∧ DicW P w K H5 D kvs ∧ kvs.length < sizeLine ∧ ∀ u, DicW P w K (upd H5 D u) D (putK kvs k z) → Nx (upd H5 D u) else Nx H3)
section
variable {X : Cx} {kx vx tg iter : Expr} {ifs : List Expr} {scope : Scope} {own : List (Str × Nat)} {pos : Pos} {wi : TI} {g : TG} {tt : TT} {tk tv : TE}
abbrev Blk (X : Cx) (scope : Scope) (M : Cx → Prop) : Prop := ∀ (s : Shared) (H : Hp) (C : Addr) (cl : List (Str × Addr)) (fp : List Addr), M (X.blk s H scope (compEnvC scope cl C X.env) fp)
theorem pe_dcP (hu : X.A.units < cLine) (hc : X.calm = true) (hN : X.N.Nodup) (hi : PI X tg iter wi) (ok : BlkOk X.N X.env.scope scope own) (hg : Blk X scope fun Y => PG Y tg g) (ht : Blk X scope fun Y => PTs Y ifs tt)
    (hk : Blk X scope fun Y => PE Y kx tk) (hv : Blk X scope fun Y => PE Y vx tv) (hs : ∀ x, foldedSetIterable iter X.env x = pure x := by intro _; rfl) :
    PE X (.DictComp kx vx [⟨tg, iter, ifs, 0⟩] scope pos) (tDcP X.prog X.w X.K wi g tt tk tv (own.map (·.2))) := by
  refine ⟨fun pins s σ H Q I h => ?_⟩
  rw [arm_eval_DictComp]
  have clos : ∀ y ∈ scope.names, y.2 = .free → ∃ c, X.env.cells.lookup y.1 = some c := fun y hy e => (ok.free y hy e).elim (fun k => I.ok.has _ (.inl k)) (fun k => I.ok.has _ (.inr k))
  refine wpAny_comprehension_free (use := none) rfl hs (closure_ok clos) ok.kind (fun y hy e => by rw [ok.uniq y hy, e]) (thn (hi.run pins s σ H _ I h) fun xv s1 hx => thn hx fun itv s2 ⟨it, fp, tn, J, H2, e, I2, T, st2, f2, q⟩ => ?_)
  subst e
  refine wpAny_newObj_type (newEnv_comp ?_)
  -- the dict is at the heap's end
  have nD : H2 s2.heap.objs.size = none := I2.hok.fresh (Nat.le_refl _)
  have w0D : DicW X.prog X.w X.K (upd H2 s2.heap.objs.size (.ext (rawD X.prog X.w s2.heap.objs.size []))) s2.heap.objs.size [] := ⟨[], upd_same, .nil⟩
  obtain ⟨W, ⟨m0, w0⟩, turn⟩ := q s2.heap.objs.size _ nD w0D
  have I3 : L2.Inv X pins σ (upd H2 s2.heap.objs.size (.ext (rawD X.prog X.w s2.heap.objs.size []))) { s2 with heap := s2.heap.push { cls := .type "dict", data := .dict #[] } } :=
    I2.laid (t' := s2.toks) (fun b o e => Heap.get?_push_of_some _ e) (Nat.le_refl _) (raw_new s2.heap I2.big)
  have old : ∀ b ∈ fp, b < s2.heap.objs.size := fun b hb => let ⟨_, e, _⟩ := T.obj _ _ st2 b hb; Heap.lt_size e
  clear w0D
  generalize eH : upd H2 s2.heap.objs.size (.ext (rawD X.prog X.w s2.heap.objs.size [])) = H3 at w0 I3
  generalize eS : ({ s2 with heap := s2.heap.push { cls := .type "dict", data := .dict #[] } } : Shared) = s3 at I3
  generalize eD : s2.heap.objs.size = D at turn
  have h3 : s3.heap = s2.heap.push { cls := .type "dict", data := .dict #[] } := by rw [← eS]
  have st3 : tn 0 s3.heap := T.keep _ _ _ st2 fun b _ o e => by rw [h3]; exact Heap.get?_push_of_some _ e
  have f3 : ∀ b ∈ fp, FpOk X pins H3 b ∧ b < s3.heap.objs.size := fun b hb => by
    refine ⟨⟨?_, (f2 b hb).2⟩, by rw [h3, Heap.size_push]; exact Nat.lt_succ_of_lt (old b hb)⟩
    rw [← eH, upd_ne (Nat.ne_of_lt (old b hb))]
    exact (f2 b hb).1
  have I4 := block_start I3 ok hN f3
  have pg := hg s3 H3 s3.heap.objs.size (cellsFrom (s3.heap.objs.size + 1) scope.names (cloFrom X.env.cells scope.names [])) fp
  have pt := ht s3 H3 s3.heap.objs.size (cellsFrom (s3.heap.objs.size + 1) scope.names (cloFrom X.env.cells scope.names [])) fp
  have pk := hk s3 H3 s3.heap.objs.size (cellsFrom (s3.heap.objs.size + 1) scope.names (cloFrom X.env.cells scope.names [])) fp
  have pv := hv s3 H3 s3.heap.objs.size (cellsFrom (s3.heap.objs.size + 1) scope.names (cloFrom X.env.cells scope.names [])) fp
  have goal : codeAny (model X.prog X.w) X.A (.compStart (.DictComp kx vx [⟨tg, iter, ifs, 0⟩] scope pos) 0 (.ref it) (.ref D) (compEnvC scope (cellsFrom (s3.heap.objs.size + 1) scope.names (cloFrom X.env.cells scope.names [])) s3.heap.objs.size X.env))
      (compPost (model X.prog X.w) X.A X.xe none (EP X pins σ Q) (.ref D) s3.heap.objs.size) { s3 with heap := pushCells (s3.heap.push { cls := .type "dict", data := .dict #[] }) scope.names } := by
    generalize ece : compEnvC scope (cellsFrom (s3.heap.objs.size + 1) scope.names (cloFrom X.env.cells scope.names [])) s3.heap.objs.size X.env = ce at I4 pg pt pk pv ⊢
    have cL : ce.locals = s3.heap.objs.size := by rw [← ece]; rfl
    generalize eS4 : ({ s3 with heap := pushCells (s3.heap.push { cls := .type "dict", data := .dict #[] }) scope.names } : Shared) = s4 at I4 ⊢
    have st4 : tn 0 s4.heap := T.keep _ _ _ st3 fun b _ o e => by rw [← eS4]; exact pushCells_keeps _ _ _ _ (Heap.get?_push_of_some _ e)
    have stat : ∀ {σ' : L2.St} {H' : Hp} {s' : Shared}, L2.Inv (X.blk s3 H3 scope ce fp) [] σ' H' s' → (∀ b ∈ fp, H' b = none) → ∀ b ∈ fp, FpOk (X.blk s3 H3 scope ce fp) [] H' b := fun {σ' H' s'} I' hn b hb =>
      ⟨hn b hb, (I'.ok.exf b hb).1, I'.ok.exfs b hb, .inl hb, fun x c e => (I'.ok.exf b hb).2 x c e, fun p hp => by cases hp⟩
    have loop : codeAny (model X.prog X.w) X.A (.compLoop (.DictComp kx vx [⟨tg, iter, ifs, 0⟩] scope pos) 0 (.ref it) (.ref D) ce) (compPost (model X.prog X.w) X.A X.xe none (EP X pins σ Q) (.ref D) s3.heap.objs.size) s4 := by
      refine compLoop_anyD (fun n s' => ∃ i H', L2.Inv (X.blk s3 H3 scope ce fp) [] (wipe σ (own.map (·.2))) H' s' ∧ tn i s'.heap ∧ (∀ b ∈ fp, H' b = none) ∧ W i n H') ?_ m0 ⟨0, H3, I4, st4, fun b hb => (f3 b hb).1.1, w0⟩
      intro n s5 ⟨i, H5, I5, st5, n5, w5⟩
      rcases turn i n H5 w5 with ⟨stop, qq⟩ | ⟨go, Nx, hNx, step⟩
      · refine thnF (T.done (X.blk s3 H3 scope ce fp) rfl rfl rfl hc i [] s5 _ H5 (fun _ _ => False) I5 (stat I5 n5) st5 stop) fun r s6 ⟨hr, I6⟩ => ?_
        subst hr
        have I7 : L2.Inv X pins σ H5 s6 := I3.call' (ch := fp) I6.os I6.base I6.hok I6.bare fun b hb => ⟨(f3 b hb).1.2.2.2.1, (f3 b hb).1.2.1, (f3 b hb).1.2.2.2.2.1, (f3 b hb).1.2.2.2.2.2⟩
        have nC : H5 s3.heap.objs.size = none := cL ▸ (show H5 ce.locals = none from I6.free)
        obtain ⟨m, hn, _⟩ := I6.loc
        refine ⟨m, cL ▸ (show s6.heap.Ns ce.locals m from hn), fun h'' sb => ?_⟩
        obtain ⟨f0, f1, f2', f3', f4, f5⟩ := I3.fpOk (Nat.le_refl _) nC
        exact ⟨.ref D, H5, I7.turned (t' := s6.toks) (fun b o hb e => (sb.2 b hb).trans e) f0 f1 f3' f4 f5, rfl, qq⟩
      · refine thnF (T.item (X.blk s3 H3 scope ce fp) rfl rfl rfl hc i [] s5 _ H5 (fun _ _ => False) I5 (stat I5 n5) st5 go) fun r s6 ⟨u, hr, h6⟩ => ?_
        subst hr
        refine thnF h6 fun _ s7 ⟨x, H7, I7, r7, y7, st7, n7⟩ => ?_
        refine thnF (pg.run _ s7 _ H7 x u _ (I7.pinned (stat I7 n7) (T.obj _ _ st7)) r7 (step x H7 y7)) fun _ s8 ⟨σ8, H8, I8, hw8, q8⟩ => ?_
        refine thnF (pt.run _ s8 σ8 H8 _ I8 q8) fun b s9 ⟨H9, I9, q9⟩ => ?_
        have fin : ∀ {s' : Shared} {H' : Hp}, L2.Inv (X.blk s3 H3 scope ce fp) ([] ++ pinsAt fp s7.heap) σ8 H' s' → Nx H' → ∃ m, m < n ∧ ∃ i H', L2.Inv (X.blk s3 H3 scope ce fp) [] (wipe σ (own.map (·.2))) H' s' ∧ tn i s'.heap ∧ (∀ b ∈ fp, H' b = none) ∧ W i m H' := by
          intro s' H' I' nx
          obtain ⟨m', hm, w'⟩ := hNx H' nx
          have pin' : ∀ b ∈ fp, ∀ o, s7.heap.get? b = some o → s'.heap.get? b = some o ∧ H' b = none := fun b hb o e =>
            let z := I'.pin (b, o) (List.mem_append_right _ (List.mem_append_right _ (mem_pinsAt hb e)))
            ⟨z.1, z.2.1⟩
          refine ⟨m', hm, i + 1, H', (I'.unpinned (pins := [])).weak (by rw [← hw8, wipe_length]) (fun j v e => ?_), T.keep _ _ _ st7 fun b hb o e => (pin' b hb o e).1, fun b hb => ?_, w'⟩
          · rw [← hw8] at e
            exact (wipe_some e).1
          · obtain ⟨o, e, _⟩ := T.obj _ _ st7 b hb
            exact (pin' b hb o e).2
        cases b with
        | false =>
          rw [if_neg Bool.false_ne_true] at q9 ⊢
          exact fin I9 q9
        | true =>
          rw [if_pos rfl] at q9 ⊢
          refine thnF (pk.run _ s9 σ8 H9 _ I9 q9) fun z s10 ⟨yk, H10, I10, r10, q10⟩ => ?_
          refine thnF (pv.run _ s10 σ8 H10 _ I10 q10) fun z2 s11 ⟨yv, H11, I11, r11, kvs, k, ky, hD, hz, nx⟩ => ?_
          refine thn (dic_store (X := X.blk s3 H3 scope ce fp) hu I11 hD ky hz r10 r11 nx) fun _ s12 ⟨H12, I12, q12⟩ => fin I12 q12
    exact codeAny_compStart_dict loop (T.self X.A 0 _ _ _ st4 loop)
  exact goal
end
end Mk


set_option Elab.async false
set_option linter.all false
set_option maxRecDepth 100000
set_option maxHeartbeats 1000000
/-! such dicts: list(d.items()), dict(pairs), next(iter(d), None) -/
namespace Mk
open PySem PySem.Spec PyProof.Rows L2

/-! ### next(iter(d), None) -/
def tNextIter (P : Program) (w : World) (K : PySem.W.Frag) (td : TE) : TE := fun σ H Q => td σ H fun x H1 => ∃ d kvs, x = .ref d ∧ DicR P w K H1 d kvs ∧ ∀ v, (kvs = [] ∧ v = .non ∨ ∃ k z, kvs[0]? = some (k, z) ∧ KyV K H1 k v) → Q v H1
section
variable {X : Cx} {e : Expr} {td : TE} {p p2 q1 q2 pos : Pos} {j : Nat}
theorem pe_nextIter (hc : X.calm = true) (he : PE X e td) (g1 : Gl X "next") (m1 : X.mg "next" = none) (g2 : Gl X "iter") (m2 : X.mg "iter" = none)
    (hs : starEach [.Call (.Name "iter" p2) [e] [] q1, .Constant .none j q2] X.env = [(false, eval (.Call (.Name "iter" p2) [e] [] q1) X.env), (false, eval (.Constant .none j q2) X.env)] := by rfl)
    (hs2 : starEach [.Constant .none j q2] X.env = [(false, eval (.Constant .none j q2) X.env)] := by rfl)
    (hs3 : starEach [e] X.env = (false, eval e X.env) :: starEach [] X.env := by rfl) :
    PE X (.Call (.Name "next" p) [.Call (.Name "iter" p2) [e] [] q1, .Constant .none j q2] [] pos) (tNextIter X.prog X.w X.K td) := by
  refine ⟨fun pins s σ H Q I h => ?_⟩
  refine wpAny_Call_Name_kw (ld_blt (u := .builtin "next") I g1 m1 (by first | rfl | decide +kernel) ?_ (by decide) (by decide))
  refine PyProof.Rows.callWith_builtin1 ?_ (by rw [hs, hs2]) (by rw [hs2]; rfl)
  rw [hs]
  refine Calls.spliced_cons (wpAny_Call_Name_kw (ld_blt (u := .builtin "iter") I g2 m2 (by first | rfl | decide +kernel) (PyProof.Rows.callWith_builtin1 ?_ hs3 rfl) (by decide) (by decide)))
  rw [hs3]
  refine Calls.spliced_cons (thn (he.run pins s σ H _ I h) fun u s1 ⟨x, H1, I1, rx, d, kvs, ex, hd, q⟩ => Calls.spliced_nil ?_)
  subst ex
  obtain rfl : u = Value.ref d := rx
  obtain ⟨xs, hm, hp, z, hb⟩ := dic_of I1 hd
  obtain ⟨es, ep, hr, hsz, hget⟩ := hm.raw
  -- iter(d)
  refine Calls.call_function_entry (by decide +kernel) (by decide +kernel) PySem.W.kdk_entry_iter (PySem.W.kdk_args_iter _) ?_
  unfold Builtin.«iter»
  refine wpAny_bind (m := someArgs "iter" 1 2 _) (wpAny_of_eq (a := [Value.ref d]) (by first | rfl | kernel_rfl!) ?_)
  show wpAny _ _ (pyIter (.ref d) >>= _) _ _ _
  refine wpAny_bind (wpAny_pyIter_dict_raw hb hr (wpAny_pure ⟨_, rfl, ?_⟩))
  -- None, next(it, None)
  refine Calls.spliced_cons (show wpAny _ _ (eval (.Constant .none j q2) X.env) _ _ _ from Constant_none (Calls.spliced_nil ?_))
  have hr2 : (s1.heap.push { cls := .type "dict_keyiterator", data := .fields #[.ref d, .int 0 0, .int es.size 0, .int ep 0] }).DictRaw d es ep := hr.at fun o e => Heap.get?_push_of_some _ e
  have hit : (s1.heap.push { cls := .type "dict_keyiterator", data := .fields #[.ref d, .int 0 0, .int es.size 0, .int ep 0] }).IsKeyIter s1.heap.objs.size d 0 es.size ep := ⟨_, Heap.get?_push_size _ rfl, rfl, rfl⟩
  refine Calls.call_function_entry (by decide +kernel) (by decide +kernel) PySem.W.kdk_entry_next (PySem.W.kdk_args_next2 _ _) ?_
  unfold Builtin.«next»
  refine wpAny_bind (m := someArgs "next" 1 2 _) (wpAny_of_eq (a := [Value.ref s1.heap.objs.size, Value.none]) (by first | rfl | kernel_rfl!) ?_)
  dsimp only
  refine wpAny_bind (wpAny_specialOf (s := { s1 with heap := s1.heap.push { cls := .type "dict_keyiterator", data := .fields #[.ref d, .int 0 0, .int es.size 0, .int ep 0] } }) (name := Str.ofString "__next__") hit.typeIs PySem.F.slot_dict_keyiterator_next.lookup ?_)
  refine wpAny_ite_split (fun hab => absurd hab (by decide)) (fun _ => ?_)
  have keepI : ∀ h', (∀ b o, b ≠ s1.heap.objs.size → (s1.heap.push { cls := .type "dict_keyiterator", data := .fields #[.ref d, .int 0 0, .int es.size 0, .int ep 0] }).get? b = some o → h'.get? b = some o) → L2.Inv X pins σ H1 { s1 with heap := h' } :=
    fun h' k => I1.kept (t' := s1.toks) fun b o e => k b o (Nat.ne_of_lt (Heap.lt_size e)) (Heap.get?_push_of_some _ e)
  by_cases hz : 0 < es.size
  · refine wpAny_bind (wpAny_pyNext_keys_item_raw hit hr2 hz fun h' hit' sb => ?_)
    obtain ⟨x0, hx0⟩ : ∃ x, xs[0]? = some x := ⟨xs[0], List.getElem?_eq_getElem (by omega)⟩
    obtain ⟨p0, hp0⟩ : ∃ p, kvs[0]? = some p := ⟨kvs[0]'(by have := hp.len; omega), List.getElem?_eq_getElem _⟩
    obtain ⟨x1, hx1, e1, e2, y, ry, ky⟩ := hp.at hp0
    rw [hx0] at hx1
    cases hx1
    have ek : es[0].key = x0.2.1 := by
      have q := hget 0
      rw [Array.getElem?_eq_getElem hz, hx0] at q
      rw [Option.some.inj q]
      rfl
    exact wpAny_pure ⟨_, rfl, y, H1, keepI h' fun b o hb e => (sb.2 b hb).trans e, by rw [Option.getD_some, ek]; exact ry, q y (.inr ⟨p0.1, p0.2, hp0, ky⟩)⟩
  · refine wpAny_bind (wpAny_pyNext_keys_end_raw (I1.ok.hd hc) hit hr2 (by omega) fun h' eb => ?_)
    have e0 : kvs = [] := by
      have := hp.len
      cases kvs with
      | nil => rfl
      | cons _ _ => rw [List.length_cons] at this; omega
    exact wpAny_pure ⟨_, rfl, .non, H1, keepI h' fun b o hb e => eb b o hb e, rfl, q .non (.inl ⟨e0, rfl⟩)⟩
end

/-! ### list(d.items()) -/
/-- new tuples laid -/
def layT (H : Hp) (pl : List (Addr × List V)) : Hp := fun b => match pl.lookup b with
  | some vs => some (.tup vs)
  | none => H b
theorem layT_off {H : Hp} {pl : List (Addr × List V)} {b : Addr} (h : b ∉ pl.map (·.1)) : layT H pl b = H b := by
  have e : pl.lookup b = none := by
    rw [List.lookup_eq_none_iff]
    intro p hp
    exact bne_iff_ne.mpr fun (z : b = p.1) => h (by rw [z]; exact List.mem_map_of_mem hp)
  unfold layT
  rw [e]
theorem layT_at {H : Hp} : ∀ {pl : List (Addr × List V)} {p : Addr × List V}, (pl.map (·.1)).Nodup → p ∈ pl → layT H pl p.1 = some (.tup p.2)
  | q :: pl, p, hn, hp => by
    rw [List.map_cons, List.nodup_cons] at hn
    unfold layT
    by_cases e : p.1 = q.1
    · rw [List.lookup_cons]
      rcases List.mem_cons.mp hp with z | z
      · subst z
        simp
      · exact absurd (e ▸ List.mem_map_of_mem z) hn.1
    · rw [List.lookup_cons, show (p.1 == q.1) = false from beq_eq_false_iff_ne.mpr e]
      rcases List.mem_cons.mp hp with z | z
      · exact absurd (by rw [z]) e
      · exact layT_at hn.2 z
theorem layT_some {H : Hp} {pl : List (Addr × List V)} {b : Addr} (h : b ∈ pl.map (·.1)) : ∃ vs, (b, vs) ∈ pl := by
  obtain ⟨p, hp, e⟩ := List.mem_map.mp h
  exact ⟨p.2, by rw [← e]; exact hp⟩
/-- the tuples of entries -/
def tupsOf : List V → List (PK × V) → List (List V)
  | y :: ys, p :: ps => [y, p.2] :: tupsOf ys ps
  | _, _ => []
theorem keysOf {K : PySem.W.Frag} {H : Hp} : ∀ {kvs : List (PK × V)} {xs : List En}, PairE K H kvs xs → ∃ ys : List V, ys.length = kvs.length ∧ ∀ (j : Nat) (p : PK × V), kvs[j]? = some p → ∃ y x, ys[j]? = some y ∧ xs[j]? = some x ∧ L2.RelV y x.2.1 ∧ L2.RelV p.2 x.2.2 ∧ KyV K H p.1 y
  | _, _, .nil => ⟨[], rfl, fun j p e => by simp at e⟩
  | _, _, .cons (a := p) (b := x) ⟨h1, h2, y, h3, h4⟩ t => by
    obtain ⟨ys, e1, e2⟩ := keysOf t
    refine ⟨y :: ys, by rw [List.length_cons, List.length_cons, e1], fun j q e => ?_⟩
    cases j with
    | zero =>
      have e' : p = q := Option.some.inj e
      subst e'
      exact ⟨y, x, rfl, rfl, h3, h2, h4⟩
    | succ i =>
      obtain ⟨y', x', f1, f2, r⟩ := e2 i q (by simpa using e)
      exact ⟨y', x', by simpa using f1, by simpa using f2, r⟩
theorem tupsOf_get : ∀ {ys : List V} {kvs : List (PK × V)} {j : Nat} {y : V} {p : PK × V}, ys[j]? = some y → kvs[j]? = some p → (tupsOf ys kvs)[j]? = some [y, p.2]
  | [], _, _, _, _, h, _ => by simp at h
  | _ :: _, [], _, _, _, _, h => by simp at h
  | y' :: ys, p' :: kvs, 0, y, p, h1, h2 => by
    have e1 : y' = y := Option.some.inj h1
    have e2 : p' = p := Option.some.inj h2
    subst e1 e2
    rfl
  | y' :: ys, p' :: kvs, j + 1, y, p, h1, h2 => tupsOf_get (ys := ys) (kvs := kvs) (j := j) h1 h2
theorem tupsOf_len : ∀ {ys : List V} {kvs : List (PK × V)}, ys.length = kvs.length → (tupsOf ys kvs).length = kvs.length
  | [], [], _ => rfl
  | [], _ :: _, h => by cases h
  | _ :: _, [], h => by cases h
  | _ :: ys, _ :: kvs, h => by
    show (tupsOf ys kvs).length + 1 = kvs.length + 1
    rw [tupsOf_len (Nat.succ.inj h)]
def rItems (P : Program) (w : World) (K : PySem.W.Frag) : V → Hp → VK → Prop := fun x H Q => ∃ d kvs, x = .ref d ∧ DicR P w K H d kvs ∧
  ∀ (H' : Hp) (p : Addr) (ts : List Addr), (∀ b o, H b = some o → H' b = some o) → H p = none → H' p = some (.lst (ts.map V.ref)) → ts.length = kvs.length →
    (∀ (j : Nat) (t : Addr) (q : PK × V), ts[j]? = some t → kvs[j]? = some q → ∃ y, H' t = some (.tup [y, q.2]) ∧ KyV K H q.1 y) → Q (.ref p) H'
def tItems (P : Program) (w : World) (K : PySem.W.Frag) (te : TE) : TE := fun σ H Q => te σ H fun x H1 => rItems P w K x H1 Q
section
variable {X : Cx} {e : Expr} {te : TE} {p apos cpos pos : Pos}
theorem pe_items (hc : X.calm = true) (he : PE X e te) (hg : Gl X "list") (hm : X.mg "list" = none) (hv : bootBuiltins "list" = some (.type "list")) (hbase : attributeBase e "items" X.env (eval e X.env) = eval e X.env := by rfl) (hline : (apos.endLine == cpos.line) = true := by rfl)
    (hs : starEach [.Call (.Attribute e "items" apos) [] [] cpos] X.env = (false, eval (.Call (.Attribute e "items" apos) [] [] cpos) X.env) :: starEach [] X.env := by rfl) :
    PE X (.Call (.Name "list" p) [.Call (.Attribute e "items" apos) [] [] cpos] [] pos) (tItems X.prog X.w X.K te) := by
  refine ⟨fun pins s σ H Q I hq => ?_⟩
  refine wpAny_Call_Name_kw (ld_blt I hg hm hv (PyProof.Rows.callWith_type1 ?_ hs rfl))
  rw [hs]
  refine Calls.spliced_cons (wpAny_Call_method (T := "dict") (id := "dict.items") hbase rfl hline F.plainAttrs_dict F.slot_dict_items F.type_dict_items (thn (he.run pins s σ H _ I hq) fun u s1 ⟨x, H1, I1, rx, d, kvs, ex, hd, q⟩ => ?_))
  subst ex
  obtain rfl : u = Value.ref d := rx
  obtain ⟨xs, hdo, hp, hz, hb⟩ := dic_of I1 hd
  obtain ⟨es, ep, hr, hsz, hget⟩ := hdo.raw
  have hlen := hp.len
  have I2 : L2.Inv X pins σ H1 { s1 with heap := s1.heap.push { cls := .type "dict_items", data := .fields #[.ref d] } } := I1.kept (t' := s1.toks) fun b ob q => Heap.get?_push_of_some _ q
  refine ⟨hdo.ty, fun b eb => ?_, ?_⟩
  · cases eb
    obtain ⟨o, _, _, h1, h2, _⟩ := hdo
    exact ⟨o, h1, h2.2.1⟩
  show wpAny _ _ (callWith cpos (.builtin "dict.items") [.ref d] [] []) _ X.xe s1
  refine method_meetsIn F.slot_dict_items F.entry_dict_items rfl (PySem.evalArgs_none ⟨rfl, hdo.ty, F.args_dict_items_1 _, _, meets_dict_items_raw d hb, ⟨es, ep, hr⟩, ?_⟩)
  refine Calls.spliced_nil ?_
  refine PySem.W.dil_call (es := es) (ep := ep) (I1.ok.hd hc) ⟨_, Heap.get?_push_size _ rfl, rfl, rfl⟩ (hr.at fun o e => Heap.get?_push_of_some _ e) (by omega) fun h' tk acc c as hk hS hl hG hacc => ?_
  obtain ⟨ys, ely, hys⟩ := keysOf hp
  generalize eS : (s1.heap.push { cls := .type "dict_items", data := .fields #[.ref d] }).objs.size = S at hS hG
  have nS : H1 S = none := I2.hok.fresh (Nat.le_of_eq eS)
  have nT : ∀ t ∈ as, H1 t = none := fun t ht => I2.hok.fresh (by rw [eS]; exact Nat.le_of_lt (hG.above t ht))
  have Sas : S ∉ as := fun z => Nat.lt_irrefl _ (hG.above _ z)
  have nd : as.Nodup := List.Pairwise.imp (fun {a b} (h : a < b) => Nat.ne_of_lt h) hG.rise
  have lt := tupsOf_len ely
  have fst : (as.zip (tupsOf ys kvs)).map (·.1) = as := List.map_fst_zip (by omega)
  have ndz : ((as.zip (tupsOf ys kvs)).map (·.1)).Nodup := by rw [fst]; exact nd
  -- the heap with the list and the tuples
  have off : ∀ b, b ∉ as → b ≠ S → layT (upd H1 S (.lst (as.map V.ref))) (as.zip (tupsOf ys kvs)) b = H1 b := fun b h1 h2 => by rw [layT_off (by rw [fst]; exact h1), upd_ne h2]
  have eL : layT (upd H1 S (.lst (as.map V.ref))) (as.zip (tupsOf ys kvs)) S = some (.lst (as.map V.ref)) := by rw [layT_off (by rw [fst]; exact Sas), upd_same]
  have kp : ∀ b u, H1 b = some u → layT (upd H1 S (.lst (as.map V.ref))) (as.zip (tupsOf ys kvs)) b = some u := fun b u e => by
    rw [off b (fun z => by rw [nT b z] at e; cases e) (fun z => by rw [z, nS] at e; cases e)]
    exact e
  have atT : ∀ (j : Nat) (t : Addr) (q : PK × V), as[j]? = some t → kvs[j]? = some q → ∃ y x, layT (upd H1 S (.lst (as.map V.ref))) (as.zip (tupsOf ys kvs)) t = some (.tup [y, q.2]) ∧ KyV X.K H1 q.1 y ∧ xs[j]? = some x ∧ L2.RelV y x.2.1 ∧ L2.RelV q.2 x.2.2 := fun j t q h1 h2 => by
    obtain ⟨y, x, f1, f2, f3, f4, f5⟩ := hys j q h2
    have m : (t, [y, q.2]) ∈ as.zip (tupsOf ys kvs) := List.mem_of_getElem? (i := j) (by rw [List.getElem?_zip_eq_some]; exact ⟨h1, tupsOf_get f1 h2⟩)
    exact ⟨y, x, layT_at ndz m, f5, f2, f3, f4⟩
  have low : ∀ b o, (s1.heap.push { cls := .type "dict_items", data := .fields #[.ref d] }).get? b = some o → b ∉ as ∧ b ≠ S := fun b o e =>
    have l : b < S := eS ▸ Heap.lt_size e
    ⟨fun z => Nat.lt_asymm l (hG.above b z), Nat.ne_of_lt l⟩
  refine ⟨.ref S, layT (upd H1 S (.lst (as.map V.ref))) (as.zip (tupsOf ys kvs)), ?_, rfl, q _ S as kp nS eL (by omega) fun j t r h1 h2 => let ⟨y, _, a, b, _⟩ := atT j t r h1 h2; ⟨y, a, b⟩⟩
  refine I2.call' (ch := []) rfl ⟨fun b o q _ _ _ => hk b o q, fun b o q _ _ _ => ⟨o.slots, hk b o q⟩, fun b o q n _ => ?_, fun b o q _ => ⟨o, hk b o q⟩, fun b xs q => kp b _ q, fun b o u q => kp b _ q, fun b ps q => ⟨#[], by rw [kp b _ q]; simp⟩⟩ (fun b u q => ?_) I2.bare fun b z => by simp at z
  · obtain ⟨z1, z2⟩ := low b o q
    rw [off b z1 z2]
    exact n
  · by_cases hb1 : b ∈ as
    · obtain ⟨j, hj⟩ := List.mem_iff_getElem?.mp hb1
      have jl := (List.getElem?_eq_some_iff.mp hj).1
      obtain ⟨r, hr'⟩ : ∃ r, kvs[j]? = some r := ⟨kvs[j]'(by omega), List.getElem?_eq_getElem _⟩
      obtain ⟨y, x, a1, a2, a3, a4, a5⟩ := atT j b r hj hr'
      rw [a1] at q
      cases q
      obtain ⟨hj', f⟩ := hG.pairs j b hj
      have ee : es[j] = entP X.prog X.w x := by
        have z := hget j
        rw [Array.getElem?_eq_getElem hj', a3] at z
        exact Option.some.inj z
      rw [ee] at f
      exact ⟨by show 2 ≤ sizeLine; decide, [x.2.1, x.2.2], .cons a4 (.cons a5 .nil), ⟨_, f, rfl, _, rfl⟩⟩
    · by_cases hb2 : b = S
      · subst hb2
        rw [eL] at q
        cases q
        refine ⟨by rw [List.length_map]; omega, acc.toList, c, by rw [hacc]; exact LiI.vals_refs as, ?_⟩
        rw [Array.toArray_toList]
        exact hS
      · rw [off b hb1 hb2] at q
        exact (I2.hok b u q).stay (fun d v _ y => hk d v y) (fun d y => kp d _ y) fun d xs y => kp d _ y
end
end Mk


set_option Elab.async false
set_option linter.all false
set_option maxRecDepth 100000
set_option maxHeartbeats 1000000
/-! such dicts: dict(pairs) -/
namespace Mk
open PySem PySem.Spec PyProof.Rows L2

/-- later pairs win, at the first one's place -/
def mergeP (acc : List (PK × V)) (l : List (PK × V)) : List (PK × V) := l.foldl (fun a p => putK a p.1 p.2) acc
def mergeE (acc : List En) (l : List En) : List En := l.foldl (fun a p => putE a p.1 p.2.1 p.2.2) acc
theorem mergeP_len (l : List (PK × V)) : ∀ acc, (mergeP acc l).length ≤ acc.length + l.length := by
  induction l with
  | nil => intro acc; exact Nat.le_refl _
  | cons p r ih =>
    intro acc
    have h1 := ih (putK acc p.1 p.2)
    have h2 := length_putK acc p.1 p.2
    show (mergeP (putK acc p.1 p.2) r).length ≤ _
    rw [List.length_cons]
    omega
section
variable {P : Program} {w : World} {A : Around} {E : Value → Shared → Prop}
theorem pairs_loop {R : Result → Shared → Prop} {S I l : Addr} {items : Array Value} {res : Value} (hu : A.in1.units < cLine) (hh : A.handled = none) (hlI : l ≠ I) (hSI : S ≠ I) (hSl : S ≠ l) :
    ∀ (rest : List En) (i : Nat) (acc : List En) (ix : Int) (t : Tok) (s : Shared), items.size = i + rest.length → acc.length + rest.length ≤ sizeLine →
      (∀ (j : Nat) (q : En), rest[j]? = some q → ∃ b : Addr, items[i + j]? = some (.ref b) ∧ b ≠ S ∧ b ≠ I ∧ IsTup s.heap b #[q.2.1, q.2.2] ∧ isP P w s.heap q.1 q.2.1) →
      s.heap.IsListIter I l i → s.heap.IsList l items → DOf P w s.heap S acc →
      (∀ h' tk, DOf P w h' S (mergeE acc rest) → (∀ b o, b ≠ S → b ≠ I → s.heap.get? b = some o → h'.get? b = some o) → R (.ok (.ret res)) { s with heap := h', toks := tk }) →
      codeAny (model P w) A (.builtin "dict.update.loop" ⟨[.ref S, .ref I, .int ix t, res], []⟩) R s := by
  intro rest
  induction rest with
  | nil =>
    intro i acc ix t s hsz hln ht hit hl hm hR
    refine codeAny_builtin ud_entry ?_
    rw [Around.under_plainId ud_plain _]
    show wpAny _ A.in1 (pyNext (.ref I) >>= _) _ _ s
    refine wpAny_bind (wpAny_pyNext_list_end (A := A.in1) hh hit hl (Array.getElem?_eq_none (Nat.le_of_eq (by simpa using hsz))) fun h' he => ?_)
    show wpAny _ A.in1 (Builtin.Dict.addKeywords S [] >>= _) _ _ _
    refine wpAny_bind (wpAny_pure (wpAny_pure (hR h' s.toks ?_ fun b o _ hb e => he b o hb e)))
    obtain ⟨o, es, ep, h1, h2, h3, h4, h5, h6⟩ := hm
    obtain ⟨oi, hoi, hci, hdi⟩ := id hit
    refine ⟨o, es, ep, he S o hSI h1, h2, h3, h4, fun x hx => ?_, h6⟩
    have q := h5 x hx
    cases hx1 : x.1 with
    | inl j =>
      rw [hx1] at q
      exact q
    | inr ks =>
      rw [hx1] at q
      obtain ⟨a, e1, o1, its, n, k1, k2, k3, k4⟩ := q
      refine ⟨a, e1, o1, its, n, he a o1 (fun z => ?_) k1, k2, k3, k4⟩
      subst z
      rw [hoi] at k1
      cases k1
      rw [hdi] at k3
      cases k3
  | cons q rest ih =>
    intro i acc ix t s hsz hln ht hit hl hm hR
    obtain ⟨b, hb, hbS, hbI, htup, hk⟩ := ht 0 q rfl
    rw [List.length_cons] at hsz hln
    refine codeAny_builtin ud_entry ?_
    rw [Around.under_plainId ud_plain _]
    show wpAny _ A.in1 (pyNext (.ref I) >>= _) _ _ s
    refine wpAny_bind (wpAny_pyNext_list_item (x := .ref b) hit hl (by simpa using hb) fun h1 hit1 hs1 => ?_)
    obtain ⟨oi, hoi, hci, hdi⟩ := id hit
    -- the iterator alone has turned
    have keepP : ∀ {k : PK} {v : Value}, isP P w s.heap k v → isP P w h1 k v := fun {k v} x => by
      cases k with
      | inl j => exact x
      | inr ks =>
        obtain ⟨a, e1, o1, its, n, k1, k2, k3, k4⟩ := x
        refine ⟨a, e1, o1, its, n, (hs1.2 a fun z => ?_).trans k1, k2, k3, k4⟩
        subst z
        rw [hoi] at k1
        cases k1
        rw [hdi] at k3
        cases k3
    have ht1 : IsTup h1 b #[q.2.1, q.2.2] := htup.extBut hs1.extBut hbI
    have hl1 : h1.IsList l items := hl.extBut hs1.extBut hlI
    have hm1 : DOf P w h1 S acc := by
      obtain ⟨o, es, ep, a1, a2, a3, a4, a5, a6⟩ := hm
      exact ⟨o, es, ep, (hs1.2 S hSI).trans a1, a2, a3, a4, fun x hx => keepP (a5 x hx), a6⟩
    obtain ⟨o, ho, hc, n, hd⟩ := id ht1
    show wpAny _ A.in1 (holding [Value.ref b] _ >>= _) _ _ _
    refine wpAny_bind (wpAny_holding (wpAny_bind (wpAny_tryCatch ?_)))
    unfold Builtin.Dict.pairItems
    refine wpAny_bind (wpAny_typeOf (T := "tuple") ⟨o, ho, hc⟩ ?_)
    rw [if_pos (by first | decide | rfl | simp)]
    refine wpAny_bind (wpAny_seqItems ho hd (wpAny_pure ?_))
    show wpAny _ A.in1 (holding [q.2.1, q.2.2] (dictSet S q.2.1 q.2.2)) _ _ _
    have hsS : S ≠ b := Ne.symm hbS
    obtain ⟨oS, esS, epS, b1, b2, b3, _⟩ := id hm1
    refine wpAny_holding (set_P (k := q.1) hu (keepP hk) hm1 (by omega) (fun h2 hm2 hs2 => ?_))
    refine wpAny_pure ⟨plainId_quiet ud_plain _, ih (i + 1) (putE acc q.1 q.2.1 q.2.2) (ix + 1) 0 _ (show items.size = i + 1 + rest.length by omega) ?_ (fun j q' e => ?_) ?_ ?_ hm2 fun h' tk hd' k => ?_⟩
    · have z := putE_len acc q.1 q.2.1 q.2.2
      omega
    · obtain ⟨b', hb', hbS', hbI', htup', hk'⟩ := ht (j + 1) q' (by simpa using e)
      refine ⟨b', ?_, hbS', hbI', (htup'.extBut hs1.extBut hbI').extBut hs2.extBut hbS', isP_keeps (keepP hk') b1 b3 hs2⟩
      rw [show i + 1 + j = i + (j + 1) by omega]
      exact hb'
    · exact hit1.at fun o' e => hs2.extBut I o' (Ne.symm hSI) e
    · exact hl1.extBut hs2.extBut (Ne.symm hSl)
    · exact hR h' tk hd' fun c oc h3 h4 e => k c oc h3 h4 (hs2.extBut c oc h3 (hs1.extBut c oc h4 e))
theorem dict_pairs {s : Shared} {l : Addr} {ol : Obj} {items : Array Value} {n : Nat} {prs : List En} {Q : Value → Shared → Prop} (hu : A.units + 3 < cLine) (hh : A.handled = none) (hl : s.heap.get? l = some ol) (hc : ol.cls = .type "list") (hd : ol.dict = none)
    (hdat : ol.data = .seq items n) (hsz : items.size = prs.length) (hln : prs.length ≤ sizeLine)
    (ht : ∀ (j : Nat) (q : En), prs[j]? = some q → ∃ b : Addr, items[j]? = some (.ref b) ∧ IsTup s.heap b #[q.2.1, q.2.2] ∧ isP P w s.heap q.1 q.2.1)
    (hq : ∀ h' tk, DOf P w h' s.heap.objs.size (mergeE [] prs) → (∀ b o, s.heap.get? b = some o → h'.get? b = some o) → Q (.ref s.heap.objs.size) { s with heap := h', toks := tk }) :
    wpAny (model P w) A (call (.type "dict") [.ref l]) Q E s := by
  refine callType_codes (Q₁ := fun obj s₁ => obj = .ref s.heap.objs.size ∧ s₁ = { s with heap := s.heap.push { cls := .type "dict", data := .dict #[] } }) PySem.F.kt_called_dict (PySem.F.kt_typeCall_dict_1 _) PySem.F.entry_dict_init (kt_code_dict_new _ ⟨rfl, rfl⟩) ?_
  intro obj s₁ ⟨e1, e2⟩
  subst e1 e2
  have hnew : DOf P w (s.heap.push { cls := .type "dict", data := .dict #[] }) s.heap.objs.size [] := DOf.new s.heap
  have k0 : ∀ b o, s.heap.get? b = some o → (s.heap.push { cls := .type "dict", data := .dict #[] }).get? b = some o := fun b o e => Heap.get?_push_of_some _ e
  have tyN : ({ s with heap := s.heap.push { cls := .type "dict", data := .dict #[] } } : Shared).TypeIs (.ref s.heap.objs.size) "dict" := DOf.ty (s := { s with heap := s.heap.push { cls := .type "dict", data := .dict #[] } }) hnew
  refine ⟨tyN, PySem.F.args_dict_init_2 _ _, ?_⟩
  unfold Builtin.«dict.__init__»
  refine wpAny_bind ?_
  unfold Builtin.Dict.selfAndRest
  refine wpAny_bind (wpAny_notOrdered_dict tyN ?_)
  show wpAny _ _ (pure (s.heap.objs.size, [Value.ref l])) _ _ _
  refine wpAny_pure ?_
  show wpAny _ _ (Builtin.Dict.updateFrom "dict.__init__" s.heap.objs.size (.ref l) [] .none) _ _ _
  unfold Builtin.Dict.updateFrom
  refine wpAny_bind (wpAny_typeOf (T := "list") ⟨ol, k0 _ _ hl, hc⟩ ?_)
  rw [if_pos (by first | decide | rfl | simp)]
  refine wpAny_bind (miss_list (k0 _ _ hl) hc hdat hd hh fun h1 tk1 hk1 => ?_)
  rw [if_pos (show (none : Option Value).isNone = true from rfl)]
  refine wpAny_bind (wpAny_rule ?_)
  have hl1 : h1.IsList l items := ⟨ol, hk1 _ _ (k0 _ _ hl), hc, n, hdat⟩
  have hS1 : s.heap.objs.size < h1.objs.size := Heap.lt_size (hk1 _ _ (Heap.get?_push_size (o := { cls := .type "dict", data := .dict #[] }) _ rfl))
  refine wpAny_bind (wpAny_pyIter_list hl1 ?_)
  have k2 : ∀ b o, h1.get? b = some o → (h1.push { cls := .type "list_iterator", data := .fields #[.ref l, .int 0 0] }).get? b = some o := fun b o e => Heap.get?_push_of_some _ e
  have k3 : ∀ b o, s.heap.get? b = some o → (h1.push { cls := .type "list_iterator", data := .fields #[.ref l, .int 0 0] }).get? b = some o := fun b o e => k2 _ _ (hk1 _ _ (k0 _ _ e))
  have hlt : l < s.heap.objs.size := Heap.lt_size hl
  have hN : DOf P w (h1.push { cls := .type "list_iterator", data := .fields #[.ref l, .int 0 0] }) s.heap.objs.size [] := by
    obtain ⟨o, es, ep, a1, a2, a3, a4, a5, a6⟩ := hnew
    exact ⟨o, es, ep, k2 _ _ (hk1 _ _ a1), a2, a3, a4, (fun x hx => by cases hx), a6⟩
  have key := pairs_loop (P := P) (w := w) (A := A.in1) (R := wants (fun r s₂ => r = .none ∧ Q (.ref s.heap.objs.size) s₂) E) (S := s.heap.objs.size) (I := h1.objs.size) (l := l) (items := items) (res := Value.none) (by show A.units + 1 + 1 < cLine; omega) hh
    (Nat.ne_of_lt (Nat.lt_trans hlt hS1)) (Nat.ne_of_lt hS1) (Nat.ne_of_gt hlt) prs 0 [] 0 0
    { s with heap := h1.push { cls := .type "list_iterator", data := .fields #[.ref l, .int 0 0] }, toks := tk1 } (by rw [hsz, Nat.zero_add]) (by rw [List.length_nil, Nat.zero_add]; exact hln)
    (fun j q e => by
      obtain ⟨b, e1, e2, e3⟩ := ht j q e
      have hb : b < s.heap.objs.size := e2.lt
      exact ⟨b, by rw [Nat.zero_add]; exact e1, Nat.ne_of_lt hb, Nat.ne_of_lt (Nat.lt_trans hb hS1), e2.keeps fun c o z => k3 _ _ z, isP_kept e3 fun c o vs n z _ => k3 _ _ z⟩)
    ⟨_, Heap.get?_push_size _ rfl, rfl, rfl⟩ (hl1.at fun o e => k2 _ _ e) hN
    (fun h' tk hd' k => ⟨rfl, hq h' tk hd' fun b o e => k b o (Nat.ne_of_lt (Heap.lt_size e)) (Nat.ne_of_lt (Nat.lt_trans (Heap.lt_size e) hS1)) (k3 _ _ e)⟩)
  first
    | exact wpAny_pure ⟨plainId_quiet ud_plain _, key⟩
    | exact wpAny_bind (wpAny_pure (wpAny_pure ⟨plainId_quiet ud_plain _, key⟩))
end

theorem PairE.merge {K : PySem.W.Frag} {H : Hp} : ∀ {l : List (PK × V)} {xs : List En}, PairE K H l xs → ∀ {acc : List (PK × V)} {ys : List En}, PairE K H acc ys → PairE K H (mergeP acc l) (mergeE ys xs)
  | _, _, .nil, _, _, r => r
  | _, _, .cons ⟨h1, h2, y, h3, h4⟩ t, acc, ys, r => by
    have q := r.put h4 h3 h2
    rw [h1] at q
    have z := PairE.merge t q
    show PairE _ _ (mergeP (putK acc _ _) _) (mergeE (putE ys _ _ _) _)
    rw [h1]
    exact z
section
variable {X : Cx}
theorem pairs_are {pins : List (Addr × Obj)} {σ : L2.St} {H : Hp} {s : Shared} (I : L2.Inv X pins σ H s) : ∀ {ps : List Addr} {kvs : List (PK × V)}, Paired (fun p kv => ∃ y, SqT X.K H p [y, kv.2] ∧ KyV X.K H kv.1 y) ps kvs →
    ∃ prs : List En, PairE X.K H kvs prs ∧ prs.length = ps.length ∧ ∀ (j : Nat) (q : En), prs[j]? = some q → ∃ b : Addr, ps[j]? = some b ∧ IsTup s.heap b #[q.2.1, q.2.2] ∧ isP X.prog X.w s.heap q.1 q.2.1
  | _, _, .nil => ⟨[], .nil, rfl, fun j q e => by simp at e⟩
  | _, _, .cons (a := p) (b := kv) ⟨y, h, ky⟩ t => by
    obtain ⟨prs, r, hl, hp⟩ := pairs_are I t
    obtain ⟨its, rv, ht, _⟩ := I.tuple h
    obtain ⟨u, z, ei, ru, rz⟩ := vals2 rv
    subst ei
    refine ⟨(kv.1, u, z) :: prs, .cons ⟨rfl, rz, y, ru, ky⟩ r, by rw [List.length_cons, List.length_cons, hl], fun j q e => ?_⟩
    cases j with
    | zero =>
      have e' := Option.some.inj (show some (kv.1, u, z) = some q from e)
      subst e'
      exact ⟨p, rfl, ht, isP_of I ky ru⟩
    | succ j =>
      obtain ⟨b, e1, e2, e3⟩ := hp j q (by simpa using e)
      exact ⟨b, by simpa using e1, e2, e3⟩
/-- dict(xs), xs a list of pairs -/
def rDictP (P : Program) (w : World) (K : PySem.W.Frag) : List V → Hp → VK → Prop := fun vs H Q => ∃ (a : Addr) (ps : List Addr) (kvs : List (PK × V)), vs = [.ref a] ∧ SqL K H a (ps.map V.ref) ∧ Paired (fun p kv => ∃ y, SqT K H p [y, kv.2] ∧ KyV K H kv.1 y) ps kvs ∧
  ∀ p u, H p = none → DicW P w K (upd H p u) p (mergeP [] kvs) → Q (.ref p) (upd H p u)
theorem call_dictPP (hu : X.A.units + 3 < cLine) (hcalm : X.calm = true) : CallR X (.type "dict") (rDictP X.prog X.w X.K) := by
  intro pins s σ H vs us Q I r ⟨a, ps, kvs, ex, hq, hp, q⟩
  subst ex
  obtain ⟨u, eu, rx⟩ := vals1 r
  subst eu
  cases rx
  obtain ⟨its, rv, pl, hz⟩ := I.list hq
  have ei := refs_at rv
  subst ei
  rw [List.length_map] at hz
  obtain ⟨prs, rel, hl, hpr⟩ := pairs_are I hp
  obtain ⟨o, n, ho, hc, hd, hdat⟩ := pl
  refine dict_pairs (prs := prs) hu (I.ok.hd hcalm) ho hc hd hdat (by simp [hl]) (by rw [hl]; exact hz) (fun j q' e => ?_) fun h' tk hd' k => ?_
  · obtain ⟨b, e1, e2, e3⟩ := hpr j q' e
    exact ⟨b, by simp [e1], e2, e3⟩
  · have hm : (s.heap.objs.size == sysModules) = false := beq_eq_false_iff_ne.mpr (Nat.ne_of_gt I.big)
    have hf := I.hok.fresh (Nat.le_refl s.heap.objs.size)
    have pe : PairE X.K H (mergeP [] kvs) (mergeE [] prs) := rel.merge .nil
    have hlen : (mergeE [] prs).length ≤ sizeLine := by
      have h1 := mergeP_len kvs []
      have h2 := pe.len
      have h3 := rel.len
      rw [List.length_nil] at h1
      omega
    exact ⟨.ref s.heap.objs.size, _, I.laid (t' := tk) k (Nat.le_refl _) (raw_ok hlen hm hd'), rfl, q _ _ hf ⟨_, upd_same, pe.keep (Tk.new hf)⟩⟩
end
end Mk


set_option Elab.async false
set_option linter.all false
set_option maxRecDepth 100000
set_option maxHeartbeats 1000000
/-! powers of great numbers, a list beside an empty one, sorted data -/
namespace Mk
open PySem PySem.Spec PyProof.Rows L2

section
variable {X : Cx}
/-- a ** b, the answer of at most 2 ^ 27 bits -/
theorem op_powB : OpR X (binaryOp .Pow) (rI (fun i j => 0 ≤ j ∧ (Builtin.Int.intBits i : Int) * j ≤ 2 ^ 27) fun i j => .int (i ^ j.toNat)) := opI fun _ _ _ _ _ _ _ hc q => pow_int hc.1 hc.2 q
/-- xs == [], xs != [] -/
def rEqE (K : PySem.W.Frag) : R2 := fun x y H Q => ∃ a b xs, x = .ref a ∧ y = .ref b ∧ SqL K H a xs ∧ SqL K H b [] ∧ Q (.bl xs.isEmpty) H
def rNeE (K : PySem.W.Frag) : R2 := fun x y H Q => ∃ a b xs, x = .ref a ∧ y = .ref b ∧ SqL K H a xs ∧ SqL K H b [] ∧ Q (.bl (!xs.isEmpty)) H
theorem op_eqE (hu : X.A.units < cLine) : OpR X (compareOp .Eq) (rEqE X.K) := by
  intro pins s σ H x y v u Q I rx ry ⟨a, b, xs, e1, e2, h1, h2, q⟩
  subst e1 e2
  obtain rfl : v = Value.ref a := rx
  obtain rfl : u = Value.ref b := ry
  obtain ⟨i1, r1, p1, _⟩ := I.list h1
  obtain ⟨i2, r2, p2, _⟩ := I.list h2
  cases r2
  cases r1 with
  | nil => exact (SeqAt.RcAt.lists (e := fun _ => true) p1.isList p2.isList rfl hu fun j h _ => absurd h (Nat.not_lt_zero _)) _ _ _ _ ⟨.bl true, H, I, rfl, q⟩
  | cons r t => exact (SeqAt.RcAt.lists_lengths p1.isList p2.isList (by simp) hu) _ _ _ _ ⟨.bl false, H, I, rfl, q⟩
theorem op_neE (hu : X.A.units < cLine) : OpR X (compareOp .NotEq) (rNeE X.K) := by
  intro pins s σ H x y v u Q I rx ry ⟨a, b, xs, e1, e2, h1, h2, q⟩
  subst e1 e2
  obtain rfl : v = Value.ref a := rx
  obtain rfl : u = Value.ref b := ry
  obtain ⟨i1, r1, p1, _⟩ := I.list h1
  obtain ⟨i2, r2, p2, _⟩ := I.list h2
  cases r2
  cases r1 with
  | nil => exact (SeqAt.RcNeAt.lists (e := fun _ => true) p1.isList p2.isList rfl hu fun j h _ => absurd h (Nat.not_lt_zero _)) _ _ _ _ ⟨.bl false, H, I, rfl, q⟩
  | cons r t => exact (SeqAt.RcNeAt.lists_lengths p1.isList p2.isList (by simp) hu) _ _ _ _ ⟨.bl true, H, I, rfl, q⟩

/-- sorted(xs), xs data of one kind -/
def rSortD (K : PySem.W.Frag) : List V → Hp → VK → Prop := fun vs H Q => ∃ (a : Addr) (bs : List (V × PyData)), vs = [.ref a] ∧ SqL K H a (bs.map (·.1)) ∧ (∀ b ∈ bs, Dp K H b.1 b.2 ∧ b.2.depth ≤ 8) ∧
  PySem.W.AllAlike (bs.map (·.2)) ∧ PySem.W.Sortable (bs.map (·.2)) ∧ ∀ p, H p = none → Q (.ref p) (upd H p (.lst ((bs.mergeSort (PySem.W.dataLe false Prod.snd)).map (·.1))))
theorem each_of {K : PySem.W.Frag} : ∀ {bs : List (V × PyData)} {us : List Value}, Vals (bs.map (·.1)) us → PySem.W.EachIs (fun v (b : V × PyData) => L2.RelV b.1 v) us bs
  | [], _, r => by rw [List.map_nil] at r; cases r; exact .nil
  | b :: bs, _, r => by
    rw [List.map_cons] at r
    cases r with
    | cons h t => exact .cons h (each_of (K := K) t)
theorem of_each : ∀ {bs : List (V × PyData)} {us : List Value}, PySem.W.EachIs (fun v (b : V × PyData) => L2.RelV b.1 v) us bs → Vals (bs.map (·.1)) us
  | _, _, .nil => .nil
  | _, _, .cons h t => .cons h (of_each t)
theorem each_reads {pins : List (Addr × Obj)} {σ : L2.St} {H : Hp} {s : Shared} (I : L2.Inv X pins σ H s) : ∀ {bs : List (V × PyData)} {us : List Value}, (∀ b ∈ bs, Dp X.K H b.1 b.2 ∧ b.2.depth ≤ 8) → Vals (bs.map (·.1)) us →
    PySem.W.EachIs (fun v (b : V × PyData) => ∃ as, Reads s.heap v b.2 as) us bs
  | [], us, _, r => by rw [List.map_nil] at r; cases r; exact .nil
  | b :: bs, us, h, r => by
    rw [List.map_cons] at r
    cases r with
    | cons h1 t => exact .cons (Dp.reads I b.2 b.1 _ (h b List.mem_cons_self).1 h1) (each_reads I (fun c hc => h c (List.mem_cons_of_mem _ hc)) t)
theorem call_sortD (hu : X.A.units + 20 < cLine) : CallR X (.builtin "sorted") (rSortD X.K) := by
  intro pins s σ H vs us Q I r ⟨a, bs, e, hS, hd, ha, hs, q⟩
  subst e
  obtain ⟨u, eu, rx⟩ := vals1 r
  subst eu
  obtain rfl : u = .ref a := rx
  obtain ⟨its, rv, pl, hz⟩ := I.list hS
  have er := each_reads I hd rv
  rw [List.length_map] at hz
  refine PySem.W.sorted_data (R := fun v (b : V × PyData) => L2.RelV b.1 v) (enc := Prod.snd) pl.isList (each_of (K := X.K) rv) er ha hs hz (fun b hb => by have := (hd b hb).2; omega) fun out hl ho => ?_
  have hf : H (s.heap.objs.size + 1) = none := I.hok.fresh (Nat.le_succ _)
  obtain ⟨c, hc⟩ := sortedAll_at s.heap its out.toArray
  refine ⟨.ref (s.heap.objs.size + 1), _, I.laid (t' := s.toks) (fun b o e => sortedAll_old e) (Nat.le_succ _) ?_, rfl, q _ hf⟩
  exact ⟨by rw [List.length_map, List.length_mergeSort]; exact hz, out, c, of_each ho, hc⟩
end
end Mk


set_option Elab.async false
set_option linter.all false
set_option maxRecDepth 100000
set_option maxHeartbeats 2000000
/-! for i, x in enumerate(t), t a tuple -/
namespace Mk
open PySem PySem.Spec PyProof.Rows L2
open AutoSeq1 (wpAny_loadPart')

theorem enum_new1 {v : Value} {o : Obj} {T : Heap → Prop} (B : Begins v o T) :
    Meets (Builtin.«enumerate.__new__» ⟨[.type "enumerate", v], []⟩) (fun _ R s => T s.heap ∧
      R (.ok (.ret (.ref (s.heap.push o).objs.size))) { s with heap := (s.heap.push o).push { cls := .type "enumerate", data := .fields #[.none, .bool false, .ref s.heap.objs.size, rawInt 0, .none, .none] } }) :=
  .of_wp fun prog w A R s h => by
    obtain ⟨hp, g, d, tk, os⟩ := s
    obtain ⟨h1, h⟩ := h
    have hsub := sub_enumerate
    have q1 : ∀ {A' : Around} {E : Value → Shared → Prop} {Q : Value → Shared → Prop}, Q (.ref hp.objs.size) ⟨hp.push o, g, d, tk, os⟩ → wpAny (model prog w) A' (pyIter v) Q E ⟨hp, g, d, tk, os⟩ := fun q => B.iter prog w _ _ ⟨hp, g, d, tk, os⟩ _ h1 q
    wp_walk using q1
    refine wpAny_stack_any fun st => wpAny_pure ?_
    split
    · rename_i c _ _ _ _ _
      cases (c == Value.type "enumerate") <;> (wp_walk using q1; exact ⟨_, rfl, h⟩)
    · wp_walk using q1
      exact ⟨_, rfl, h⟩
theorem call_enum1 {prog : Program} {w : World} {A : Around} {E : Value → Shared → Prop} {s : Shared} {v : Value} {o : Obj} {T : Heap → Prop} {Q : Value → Shared → Prop} (B : Begins v o T) (h1 : T s.heap)
    (h : ∀ h', IsEnum h' (s.heap.objs.size + 1) s.heap.objs.size 0 .none → h'.get? s.heap.objs.size = some o → (∀ b o', s.heap.get? b = some o' → h'.get? b = some o') → Q (.ref (s.heap.objs.size + 1)) { s with heap := h' }) :
    wpAny (model prog w) A (call (.type "enumerate") [v]) Q E s := by
  refine callType_new F.called_enumerate (by decide) (F.typeCall_enumerate_1 _) (F.newCall_enumerate_1 _) (fun obj => F.args_object_init_2 obj _) F.entry_enumerate_new (enum_new1 B) ⟨h1, ?_⟩
  have hz : (s.heap.push o).objs.size = s.heap.objs.size + 1 := Heap.size_push ..
  show _ ∧ _
  rw [hz]
  have he : IsEnum ((s.heap.push o).push { cls := .type "enumerate", data := .fields #[.none, .bool false, .ref s.heap.objs.size, rawInt 0, .none, .none] }) (s.heap.objs.size + 1) s.heap.objs.size 0 .none := by
    have z := Heap.get?_push_size (s.heap.push o) (o := { cls := .type "enumerate", data := .fields #[.none, .bool false, .ref s.heap.objs.size, rawInt 0, .none, .none] }) rfl
    rw [hz] at z
    exact z
  exact ⟨⟨_, he, rfl⟩, h _ he (Heap.get?_push_of_some _ (Heap.get?_push_size _ B.free)) fun b o x => Heap.get?_push_of_some _ (Heap.get?_push_of_some _ x)⟩

/-- the tuple at a, each item in a new pair with its number -/
def ItE (K : PySem.W.Frag) (a : Addr) : It :=
  ⟨fun i H => ∃ (xs : List V) (x : V), SqT K H a xs ∧ xs[i]? = some x, fun i H v H' => ∃ T x, v = .ref T ∧ H T = none ∧ H' = upd H T (.tup [.int (i : Nat), x]) ∧ ∀ xs, SqT K H a xs → xs[i]? = some x, fun i H => ∃ xs : List V, SqT K H a xs ∧ xs.length ≤ i⟩
theorem turn_enumT {P : Program} {w : World} {K : PySem.W.Frag} {elts : List Expr} {kk : Nat} {tpos : Pos} (a e it : Addr) :
    Turn P w K (.Tuple elts kk tpos) (ItE K a) [e, it] e (fun i h => (∃ old, IsEnum h e it ((i : Nat) : Int) old) ∧ h.IsTupleIter it a i ∧ e ≠ it) where
  mem := by simp
  obj := fun i h ⟨⟨old, he⟩, ⟨o, ho, hc, hd⟩, _⟩ b hb => by
    rcases (show b = e ∨ b = it by simpa using hb) with z | z
    · rw [z]
      exact ⟨_, he, fun v q => nomatch q⟩
    · rw [z]
      exact ⟨o, ho, fun v q => by rw [hd] at q; cases q⟩
  keep := fun i h h' ⟨⟨old, he⟩, hi, hne⟩ k => ⟨⟨old, k e (by simp) _ he⟩, hi.at fun o q => k it (by simp) o q, hne⟩
  item := by
    intro X hP hw hK hc i pins s σ H E I hf ⟨⟨old, he⟩, hit, hne⟩ ⟨xs, x, hq, hx⟩
    subst hP hw hK
    obtain ⟨its, rv, p, hz⟩ := I.tuple hq
    obtain ⟨u, hu, ru⟩ := rv.get hx
    have hil : it < s.heap.objs.size := let ⟨_, q, _⟩ := hit; Heap.lt_size q
    have hel : e < s.heap.objs.size := Heap.lt_size he
    have hat : it ≠ a := fun z => by
      obtain ⟨o1, q1, c1, _⟩ := hit
      obtain ⟨o2, q2, c2, _⟩ := p
      rw [z, q2] at q1
      cases q1
      rw [c2] at c1
      exact absurd c1 (by decide)
    have hea : e ≠ a := fun z => by
      have q1 : s.heap.get? e = some _ := he
      obtain ⟨o2, q2, c2, _⟩ := p
      rw [z, q2] at q1
      cases q1
      injection (show Value.type "enumerate" = Value.type "tuple" from c2) with c3
      exact absurd c3 (by decide)
    have hT : s.heap.IsTuple a its.toArray := p
    refine wpAny_pyNext_enum_itemD (Draws.tuple (A := X.A.in1) (I.ok.hd hc) it a (Ne.symm hat) its.toArray) he (i := i) ⟨hit, hT⟩ (by rw [List.size_toArray]; exact (List.getElem?_eq_some_iff.mp hu).1) hne (by simp [hne, hea]) fun x' h' tk hx' ho st' hTn hsz hk => ?_
    have ex : x' = u := by
      have z : its[i]? = some x' := by simpa using hx'
      exact Option.some.inj (z.symm.trans hu)
    subst ex
    refine ⟨_, rfl, wpAny_letOwnedTupleGo_enum (s := { s with heap := h', toks := tk + 1 }) ho fun h'' he' sb => ?_⟩
    have hT2 : h''.get? s.heap.objs.size = some { cls := .type "tuple", data := .seq #[.int i tk, x'] } := (sb.2 _ (Nat.ne_of_gt hel)).trans hTn
    have new : ObjOk X.prog X.w (upd H s.heap.objs.size (.tup [.int (i : Nat), x])) h'' s.heap.objs.size (.tup [.int (i : Nat), x]) := ⟨by show 2 ≤ sizeLine; decide, [.int i tk, x'], .cons ⟨_, rfl⟩ (.cons ru .nil), ⟨_, hT2, rfl, _, rfl⟩⟩
    have I1 : L2.Inv X pins σ (upd H s.heap.objs.size (.tup [.int (i : Nat), x])) { s with heap := h'', toks := tk + 1 } :=
      I.turnedNew (ch := [e, it]) (fun b ob hb q => (sb.2 b (fun z => hb (by simp [z]))).trans (hk b ob (fun z => hb (by simp [z])) (fun z => hb (by simp [z])) q)) hf (Nat.le_refl _) new
    refine ⟨.ref s.heap.objs.size, _, I1, rfl, ⟨_, x, rfl, I.hok.fresh (Nat.le_refl _), rfl, fun ys hy => by rw [I.tuple_inj hy hq]; exact hx⟩, ⟨⟨x', ?_⟩, st'.1.at fun o q => (sb.2 it (Ne.symm hne)).trans q, hne⟩, fun b hb => ?_⟩
    · rw [show ((i + 1 : Nat) : Int) = (i : Int) + 1 by omega]
      exact he'
    · have hb' : b < s.heap.objs.size := by
        rcases (show b = e ∨ b = it by simpa using hb) with z | z
        · rw [z]; exact hel
        · rw [z]; exact hil
      rw [upd_ne (Nat.ne_of_lt hb')]
      exact (hf b hb).1
  done := by
    intro X hP hw hK hc i pins s σ H E I hf ⟨⟨old, he⟩, hit, hne⟩ ⟨xs, hq, hx⟩
    subst hP hw hK
    obtain ⟨its, rv, p, hz⟩ := I.tuple hq
    obtain ⟨f0, f1, f2, f3, f4, f5⟩ := hf it (by simp)
    have hl := rv.length
    have hT : s.heap.IsTuple a its.toArray := p
    have hat : it ≠ a := fun z => by
      obtain ⟨o1, q1, c1, _⟩ := hit
      obtain ⟨o2, q2, c2, _⟩ := p
      rw [z, q2] at q1
      cases q1
      rw [c2] at c1
      exact absurd c1 (by decide)
    have D := Draws.tuple (prog := X.prog) (w := X.w) (A := X.A.in1) (I.ok.hd hc) it a (Ne.symm hat) its.toArray
    have hT' : s.TypeIs (.ref e) "enumerate" := ⟨_, he, rfl⟩
    unfold pyNext
    refine wpAny_bind (wpAny_attempt (wpAny_callSpecial?_slot (name := Str.ofString "__next__") hT' F.slot_enumerate_next (wpAny_call_entry F.slot_enumerate_next hT' F.entry_enumerate_next ?_ (F.args_enumerate_next_1 _))))
    show wpAny _ _ (field (.ref e) 2 >>= _) _ _ _
    refine wpAny_bind (wpAny_field he rfl (x := .ref it) rfl ?_)
    refine wpAny_bind (wpAny_nextOf_tuple_end (A := X.A.in1) (I.ok.hd hc) hit hT (by simp; omega) fun h' x he' hx' => ?_)
    obtain ⟨o, ho, hc'⟩ := hx'
    refine wpAny_bind (wpAny_isInstance (T := "StopIteration") (b := true) ⟨o, ho, hc'⟩ isSubtype_stop ?_)
    exact wpAny_pure ⟨rfl, I.turned (t' := s.toks) (fun b o hb q => he' b o hb q) f0 f1 f3 f4 f5⟩
  self := fun A i s Q E ⟨⟨_, he⟩, _⟩ h => wpAny_pyIter_enum he h
def iEnumT (K : PySem.W.Frag) (ta : TA) : TI := fun σ H R => ta σ H fun vs H1 => ∃ a xs, vs = [.ref a] ∧ SqT K H1 a xs ∧ R (ItE K a) H1
theorem pi_enumT {X : Cx} {e : Expr} {ta : TA} {p pos tpos : Pos} {elts : List Expr} {kk : Nat} (hg : Gl X "enumerate") (hm : X.mg "enumerate" = none) (ha : PA X [e] ta) (hs : starEach [e] X.env = [(false, eval e X.env)] := by rfl) :
    PI X (.Tuple elts kk tpos) (.Call (.Name "enumerate" p) [e] [] pos) (iEnumT X.K ta) := by
  refine ⟨fun pins s σ H R I h => ?_⟩
  refine Call_ (ld_blt I hg hm boot_enumerate (PyProof.Rows.callWith_type1 (thn (ha.run pos pins s σ H _ I h) fun us s1 ⟨vs, H1, I1, r1, a, xs, ex, hq, q⟩ => ?_) hs rfl))
  subst ex
  obtain ⟨u, eu, rx⟩ := vals1 r1
  subst eu
  obtain rfl : u = .ref a := rx
  obtain ⟨its, rv, p', hz⟩ := I1.tuple hq
  refine call_enum1 (begins_tuple a its.toArray) (show s1.heap.IsTuple a its.toArray from p') fun h' he hit hk => wpAny_pyIter_enum he ?_
  refine ⟨s1.heap.objs.size + 1, [s1.heap.objs.size + 1, s1.heap.objs.size], _, _, H1, rfl, I1.kept (t' := s1.toks) hk, turn_enumT a (s1.heap.objs.size + 1) s1.heap.objs.size, ⟨⟨.none, he⟩, ⟨_, hit, rfl, rfl⟩, Nat.succ_ne_self _⟩, fun b hb => ?_, q⟩
  have hle : s1.heap.objs.size ≤ b := by
    rcases (show b = s1.heap.objs.size + 1 ∨ b = s1.heap.objs.size by simpa using hb) with z | z
    · rw [z]; exact Nat.le_add_right _ _
    · rw [z]; exact Nat.le_refl _
  exact I1.fpOk hle (I1.hok.fresh hle)
theorem walk_enumT {K : PySem.W.Frag} {a : Addr} {xs : List V} : Walk (ItE K a) xs.length (fun H => SqT K H a xs) (YPair (fun i => some (.int (i : Nat))) (fun i => xs[i]?)) where
  goes := fun i H hi g => ⟨xs, xs[i], g, List.getElem?_eq_getElem hi⟩
  stops := fun H g => ⟨xs, g, Nat.le_refl _⟩
  yields := fun i H x H' hi g ⟨T, y, e1, e2, e3, e4⟩ => ⟨T, _, y, e1, e2, e3, rfl, e4 xs g⟩
theorem walk_dic {P : Program} {w : World} {K : PySem.W.Frag} {d : Addr} {o : Obj} {xs : List En} {kvs : List (PK × V)} :
    Walk (ItD P w K d o xs kvs) kvs.length (fun H => H d = some (.frz o (.ext (rawD P w d xs))) ∧ PairE K H kvs xs) (fun i H x H' => H' = H ∧ ∃ k v, kvs[i]? = some (k, v) ∧ KyV K H k x) where
  goes := fun i H hi g => ⟨g.1, g.2, hi⟩
  stops := fun H g => ⟨g.1, g.2, Nat.le_refl _⟩
  yields := fun i H x H' hi g y => y
/-- a comprehension of a dict over a walk -/
theorem dc_it {P : Program} {w : World} {K : PySem.W.Frag} {J : It} {n : Nat} {G : Hp → Prop} {Y : Nat → Hp → V → Hp → Prop} (wk : Walk J n G Y) {g : TG} {tt : TT} {tk tv : TE} {vs : List Nat} {σ : L2.St} {H1 : Hp} {D : Addr} {u : HO} {Qd : Hp → Prop} (Pv : Nat → Hp → Prop)
    (h0 : Pv 0 (upd H1 D u)) (hG : ∀ i H, i ≤ n → Pv i H → G H)
    (hs : ∀ i x H H', i < n → Pv i H → Y i H x H' → g x (wipe σ vs) H' fun σ2 H2 => wipe σ2 vs = wipe σ vs ∧ tt σ2 H2 fun b H3 =>
      if b = true then tk σ2 H3 fun y H4 => tv σ2 H4 fun z H5 => ∃ kvs k, KyV K H5 k y ∧ DicW P w K H5 D kvs ∧ kvs.length < sizeLine ∧ ∀ u, DicW P w K (upd H5 D u) D (putK kvs k z) → Pv (i + 1) (upd H5 D u) else Pv (i + 1) H3) (hd : ∀ H, Pv n H → Qd H) :
    ∃ W : Nat → Nat → Hp → Prop, (∃ m, W 0 m (upd H1 D u)) ∧ ∀ i m H, W i m H → (J.stop i H ∧ Qd H) ∨
      (J.go i H ∧ ∃ Nx : Hp → Prop, (∀ H', Nx H' → ∃ m', m' < m ∧ W (i + 1) m' H') ∧ ∀ x H', J.yld i H x H' → g x (wipe σ vs) H' fun σ2 H2 => wipe σ2 vs = wipe σ vs ∧ tt σ2 H2 fun b H3 =>
        if b = true then tk σ2 H3 fun y H4 => tv σ2 H4 fun z H5 => ∃ kvs k, KyV K H5 k y ∧ DicW P w K H5 D kvs ∧ kvs.length < sizeLine ∧ ∀ u, DicW P w K (upd H5 D u) D (putK kvs k z) → Nx (upd H5 D u) else Nx H3) := by
  refine ⟨fun i m H => m = n - i ∧ i ≤ n ∧ Pv i H, ⟨n, by simp, Nat.zero_le _, h0⟩, ?_⟩
  intro i m H ⟨em, hi, p⟩
  subst em
  have q := hG i H hi p
  by_cases hlt : i < n
  · exact .inr ⟨wk.goes i H hlt q, Pv (i + 1), fun H' p' => ⟨n - (i + 1), by omega, rfl, hlt, p'⟩, fun x H' y => hs i x H H' hlt p (wk.yields i H x H' hlt q y)⟩
  · have e : i = n := by omega
    subst e
    exact .inl ⟨wk.stops H q, hd H p⟩
end Mk


set_option Elab.async false
set_option linter.all false
set_option maxRecDepth 100000
set_option maxHeartbeats 2000000
/-! calls of defs by what they promise, isinstance, constants; heaps that grow -/
namespace Mk
open PySem PySem.Spec PyProof.Rows L2

/-! ### the type of a value -/
inductive TyA (P : Program) (w : World) (K : PySem.W.Frag) (H : Hp) : V → String → Prop where
  | non : TyA P w K H .non "NoneType"
  | bl (b : Bool) : TyA P w K H (.bl b) "bool"
  | int (i : Int) : TyA P w K H (.int i) "int"
  | str (z : Str) : TyA P w K H (.str z) "str"
  | tup {a : Addr} {xs : List V} (h : SqT K H a xs) : TyA P w K H (.ref a) "tuple"
  | lst {a : Addr} {xs : List V} (h : SqL K H a xs) : TyA P w K H (.ref a) "list"
  | dic {a : Addr} {kvs : List (PK × V)} (h : DicR P w K H a kvs) : TyA P w K H (.ref a) "dict"
def rIsA (P : Program) (w : World) (K : PySem.W.Frag) : List V → Hp → VK → Prop := fun xs H Q => ∃ x T t b, xs = [x, .ty T] ∧ TyA P w K H x t ∧ kitB t T = some b ∧ Q (.bl b) H
theorem call_isA {X : Cx} : CallR X (.builtin "isinstance") (rIsA X.prog X.w X.K) := by
  intro pins s σ H xs us Q I r ⟨x, T, t, b, e, ty, eb, q⟩
  subst e
  obtain ⟨u, c, eu, r1, r2⟩ := vals2 r
  subst eu
  obtain rfl : c = Value.type T := r2
  have e := kit_ty (K := X.K) eb
  have fin : ∀ tk, EP X pins σ Q (.bool b) { s with toks := tk } := fun tk => ⟨.bl b, H, I.tok tk, rfl, q⟩
  cases ty with
  | non => cases (show u = Value.none from r1); exact PySem.W.kia_one PySem.W.kitx_none I.kIn True.intro e (fun z => nomatch z) fin
  | bl y => cases (show u = Value.bool y from r1); exact PySem.W.kia_one PySem.W.kitx_bool I.kIn True.intro e (fun z => nomatch z) fin
  | int i => obtain ⟨t, q⟩ := (show ∃ t, u = Value.int i t from r1); cases q; exact PySem.W.kia_one PySem.W.kitx_int I.kIn True.intro e (fun z => nomatch z) fin
  | str y => obtain ⟨t, q⟩ := (show ∃ t, u = Value.str y t from r1); cases q; exact PySem.W.kia_one PySem.W.kitx_str I.kIn True.intro e (fun z => nomatch z) fin
  | tup h =>
    cases (show u = Value.ref _ from r1)
    obtain ⟨_, _, ⟨o, h1, h2, _⟩, _⟩ := I.tuple h
    exact PySem.W.kia_one PySem.W.kitx_tuple I.kIn ⟨o, h1, h2⟩ e (fun z => nomatch z) fin
  | lst h =>
    cases (show u = Value.ref _ from r1)
    obtain ⟨_, _, ⟨o, n, h1, h2, _⟩, _⟩ := I.list h
    exact PySem.W.kia_one PySem.W.kitx_list I.kIn ⟨o, h1, h2⟩ e (fun z => nomatch z) fin
  | dic h =>
    cases (show u = Value.ref _ from r1)
    obtain ⟨_, ⟨o, _, _, h1, h2, _⟩, _⟩ := dic_of I h
    exact PySem.W.kia_one PySem.W.kitx_dict I.kIn ⟨o, h1, h2.1⟩ e (fun z => nomatch z) fin

/-! ### constants of the top, defs of the top -/
def IsC (mg : Str → Option Value) (x : Str) (v : V) : Prop := ∃ u, mg x = some u ∧ L2.RelV v u
theorem pe_const {X : Cx} {x : Str} {v : V} {pos : Pos} (h : IsC X.mg x v) (hg : Gl X x) (hd : (x == ("__debug__" : Str)) = false := by decide) : PE X (.Name x pos) (tC v) :=
  let ⟨_, e, r⟩ := h
  pe_glob hg e r hd
/-- the def x of the top keeps a promise -/
def Cal (P : Program) (w : World) (K : PySem.W.Frag) (mg : Str → Option Value) (base : Heap) (x : Str) (k : Nat) (ps : List Str) (sp : Sp) : Prop :=
  ∃ f fd, FnOk P w K mg base CX0 k f fd ps sp ∧ mg x = some (.ref f) ∧ PySem.W.keepIn K (.ref f) = true ∧ Binds K fd ps []
/-- the def x stands at the top -/
def Def (K : PySem.W.Frag) (mg : Str → Option Value) (x : Str) (st : Stmt) (ps : List Str) : Prop := ∃ f fd, Fun K x x st f fd ∧ mg x = some (.ref f) ∧ Binds K fd ps []
section
variable {P : Program} {w : World} {K : PySem.W.Frag} {mg : Str → Option Value} {base : Heap} {x : Str} {st : Stmt} {N ps : List Str} {k : Nat} {sp : Sp}
theorem Cal.of (D : Def K mg x st ps) (S : FnScope N ps (defScope st)) (len : ∀ vs H Q E, sp vs H Q E → vs.length = ps.length)
    (hbody : ∀ (f : Addr) (cdv : Value) (A : Around) (outer : List Env) (s : Shared) (H : Hp) (vs : List V) (Q : VK) (E : XK), Room k (A.deeper (envOfC x (defScope st) s.heap.objs.size f cdv)) → sp vs H Q E →
      ∃ t, PSs (cxOf CX0 P w K mg base N x (defScope st) f cdv A outer s H E).nox (defBody st) t ∧ t { nx := fun _ H' => Q .non H', rt := Q } (start N vs) H) : Cal P w K mg base x (k + 1) ps sp := by
  obtain ⟨f, fd, F, g, b⟩ := D
  exact ⟨f, fd, F.ok S len (hbody f), g, F.kp, b⟩
end
theorem pe_cal {X : Cx} {x : Str} {k j : Nat} {ps : List Str} {sp : Sp} {p pos : Pos} {e : Expr} {es : List Expr} {t : TA} (C : Cal X.prog X.w X.K X.mg X.base x k ps sp) (hr : Room j X.A) (hk : k ≤ j) (hg : Gl X x) (ha : PA X (e :: es) t)
    (hdb : (x == ("__debug__" : Str)) = false := by decide) (he : starEach (e :: es) X.env = (false, eval e X.env) :: starEach es X.env := by rfl) (hpl : (backTo pos (starEach es X.env)).any (·.1) = false := by rfl)
    (hp : Passes CX0 X E0 := by exact pass0) : PE X (.Call (.Name x p) (e :: es) [] pos) (tCall sp [] E0 t) := by
  obtain ⟨f, fd, F, g, kp, b⟩ := C
  exact pe_call F (hr.mono hk) hg g kp b .nil hp ha hdb he hpl

/-! ### a heap that grows; one that grows but for an object -/
def Gx (H H' : Hp) : Prop := ∀ a o, H a = some o → H' a = some o
def GxB (k : Addr) (H H' : Hp) : Prop := ∀ a o, a ≠ k → H a = some o → H' a = some o
section
variable {K : PySem.W.Frag} {H H1 H2 H' : Hp} {k p : Addr} {o : HO}
theorem Gx.refl : Gx H H := fun _ _ h => h
theorem Gx.trans (a : Gx H H1) (b : Gx H1 H2) : Gx H H2 := fun x u h => b x u (a x u h)
theorem Gx.new (h : H p = none) : Gx H (upd H p o) := fun a u e => by rw [upd_ne (ne_of_none e h)]; exact e
/-- one that H does not know may change -/
theorem Gx.mut (e : Gx H H') (h : H p = none) : Gx H (upd H' p o) := fun a u q => by rw [upd_ne (ne_of_none q h)]; exact e a u q
theorem Gx.free (e : Gx H H') (h : H' p = none) : H p = none := by
  cases q : H p with
  | none => rfl
  | some u => rw [e p u q] at h; cases h
theorem Gx.seqT {xs : List V} {a : Addr} (e : Gx H H') (h : SqT K H a xs) : SqT K H' a xs := by
  rcases h with (h | ⟨u, h⟩) | h
  · exact .inl (.inl (e _ _ h))
  · exact .inl (.inr ⟨u, e _ _ h⟩)
  · exact .inr h
theorem Gx.seqL {xs : List V} {a : Addr} (e : Gx H H') (h : SqL K H a xs) : SqL K H' a xs := by
  rcases h with (h | ⟨u, h⟩) | h
  · exact .inl (.inl (e _ _ h))
  · exact .inl (.inr ⟨u, e _ _ h⟩)
  · exact .inr h
theorem Gx.tk (e : Gx H H') : Tk K H H' := fun _ _ h => e.seqT h
theorem Gx.dicW {P : Program} {w : World} {d : Addr} {kvs : List (PK × V)} (e : Gx H H') (h : DicW P w K H d kvs) : DicW P w K H' d kvs :=
  let ⟨xs, a, b⟩ := h
  ⟨xs, e d _ a, b.keep e.tk⟩
theorem Gx.dicR {P : Program} {w : World} {d : Addr} {kvs : List (PK × V)} (e : Gx H H') (h : DicR P w K H d kvs) : DicR P w K H' d kvs := by
  obtain ⟨xs, a, b⟩ := h
  refine ⟨xs, ?_, b.keep e.tk⟩
  rcases a with a | ⟨u, a⟩
  · exact .inl (e d _ a)
  · exact .inr ⟨u, e d _ a⟩
theorem Gx.but (e : Gx H H') : GxB k H H' := fun a o _ h => e a o h
theorem GxB.refl : GxB k H H := fun _ _ _ h => h
theorem GxB.trans (a : GxB k H H1) (b : GxB k H1 H2) : GxB k H H2 := fun x u n h => b x u n (a x u n h)
theorem GxB.set : GxB k H (upd H k o) := fun a u n e => by rw [upd_ne n]; exact e
/-- k holds something that may be written, behind as ahead -/
theorem GxB.tk (e : GxB k H H') (hk : ∃ xs, H k = some (.lst xs)) : Tk K H H' := fun a xs q => by
  obtain ⟨ys, hk⟩ := hk
  rcases q with (q | ⟨u, q⟩) | q
  · exact .inl (.inl (e a _ (fun z => by subst z; rw [hk] at q; cases q) q))
  · exact .inl (.inr ⟨u, e a _ (fun z => by subst z; rw [hk] at q; cases q) q⟩)
  · exact .inr q
end
end Mk


set_option Elab.async false
set_option linter.all false
set_option maxRecDepth 100000
set_option maxHeartbeats 400000
/-! {k: v} with one key -/
namespace Mk
open PySem PySem.Spec PyProof.Rows L2
theorem upd_upd' {H : Hp} {a : Addr} {o u : HO} : upd (upd H a o) a u = upd H a u := by
  funext b
  by_cases e : b = a
  · subst e; rw [upd_same, upd_same]
  · rw [upd_ne e, upd_ne e, upd_ne e]
def tDisp1 (P : Program) (w : World) (K : PySem.W.Frag) (tk tv : TE) : TE := fun σ H Q => ∀ D u, H D = none → DicW P w K (upd H D u) D [] → tk σ (upd H D u) fun y H4 => tv σ H4 fun z H5 =>
  ∃ k, KyV K H5 k y ∧ DicW P w K H5 D [] ∧ ∀ u, DicW P w K (upd H5 D u) D [(k, z)] → Q (.ref D) (upd H5 D u)
theorem pe_disp1 {X : Cx} {pos : Pos} {k v : Expr} {tk tv : TE} (hu : X.A.units < cLine) (hk : PE X k tk) (hv : PE X v tv) : PE X (.Dict [some k] [v] pos) (tDisp1 X.prog X.w X.K tk tv) := by
  refine ⟨fun pins s σ H Q I q => ?_⟩
  have hn := I.hok.fresh (Nat.le_refl s.heap.objs.size)
  have I1 := I.laid (a := s.heap.objs.size) (o := .dK []) (h' := s.heap.push { cls := .type "dict", data := .dict #[] }) (t' := s.toks) (fun _ _ q => Heap.get?_push_of_some _ q) (Nat.le_refl _) (dk_empty s.heap I.big)
  obtain ⟨u, I2, hd⟩ := Inv.toP I1 upd_same
  rw [upd_upd'] at I2 hd
  rw [arm_eval_Dict, zip_pairTrees [some k] [v] X.env pos rfl rfl, dictDisplay_pairs (pairTrees [some k] [v] X.env pos) (by simp [pairTrees]) (by simp [pairTrees])]
  refine wpAny_bind (wpAny_standAt (wpAny_bind ?_))
  unfold subDict
  refine wpAny_bind (wpAny_alloc ?_)
  refine wpAny_bind (wpAny_holding ?_)
  rw [if_pos (by simp [pairTrees])]
  refine wpAny_bind (pairTrees_cons_walk (thn (hk.run pins _ σ _ _ I2 (q _ _ hn hd)) fun u1 s1 ⟨x, H1, I3, rx, q1⟩ => thn (hv.run pins s1 σ H1 _ I3 q1) fun w2 s2 ⟨y, H2, I4, ry, q2⟩ => pairTrees_nil_walk ?_))
  obtain ⟨j, kj, dj, q3⟩ := q2
  refine wpAny_holding ?_
  rw [List.forIn_cons]
  refine wpAny_bind (wpAny_bind (wpAny_bind ?_))
  refine thn (dic_store (N := fun H' => Q (.ref s.heap.objs.size) H') hu I4 dj kj (by decide) rx ry (fun z hz => q3 z hz)) fun _ s3 ⟨H3, I5, q5⟩ => ?_
  refine wpAny_pure ?_
  show wpAny _ _ (forIn [] _ _) _ _ _
  rw [List.forIn_nil]
  exact wpAny_pure (wpAny_pure (wpAny_pure (wpAny_pure ⟨.ref s.heap.objs.size, _, I5, rfl, q5⟩)))
/-! d.get(k) of such a dict -/
def tDMeth (P : Program) (w : World) (K : PySem.W.Frag) (r : V → List V → Hp → VK → Prop) (to : TE) (t : TA) : TE := fun σ H Q => to σ H fun x H1 => (∃ d kvs, x = .ref d ∧ DicR P w K H1 d kvs) ∧ t σ H1 fun xs H2 => r x xs H2 Q
theorem pe_dmeth {X : Cx} {o e : Expr} {to : TE} {t : TA} {name : Str} {apos cpos : Pos} {id : String} {r : V → List V → Hp → VK → Prop} (pa : PlainAttrs "dict") (slot : Slot "dict" name id) (hty : typeOf (.builtin id) = pure (.type "method_descriptor")) (hm : MtR X id r) (ho : PE X o to) (ha : PA X [e] t)
    (hb : attributeBase o name X.env (eval o X.env) = eval o X.env := by rfl) (hl : (apos.endLine == cpos.line) = true := by rfl)
    (hw : ((backTo cpos (starEach [e] X.env)).all (fun x => !x.1) && (backToKw cpos (keywordEach [] X.env)).all (fun x => x.1.isSome) && decide (([e] : List Expr).length + ([] : List Keyword).length + (if ([] : List Keyword).isEmpty then 0 else 1) < 30)) = true := by rfl) (hs : starEach [e] X.env = (false, eval e X.env) :: starEach [] X.env := by rfl) :
    PE X (.Call (.Attribute o name apos) [e] [] cpos) (tDMeth X.prog X.w X.K r to t) := by
  refine ⟨fun pins s σ H Q I h => wpAny_Call_method_late hb hw hl rfl (thn (ho.run pins s σ H _ I h) ?_)⟩
  rintro v s1 ⟨x, H1, I1, rx, ⟨d, kvs, ed, hd⟩, q⟩
  subst ed
  obtain rfl : v = Value.ref d := rx
  obtain ⟨_, ⟨ob, _, _, e1, e2, _⟩, _⟩ := dic_of I1 hd
  have hA := ha.run cpos pins s1 σ H1 _ I1 q
  rw [hs] at hA
  refine ⟨"dict", id, pa, slot, hty, ⟨ob, e1, e2.1⟩, fun a ea => (by cases ea; exact ⟨ob, e1, e2.2.1⟩), ?_⟩
  rw [hs]
  exact Calls.callWith_builtin (by rfl) (Calls.evalArgs_plain (thn hA fun us s2 ⟨vs, H2, I2, r2, q2⟩ => hm pins s2 σ H2 (.ref d) vs (.ref d) us Q I2 rfl r2 q2))
/-! the rules of blocks: the program, the world and the frag by name -/
section
variable {X : Cx} {P : Program} {w : World} {K : PySem.W.Frag}
theorem call_isA' (hP : X.prog = P) (hw : X.w = w) (hK : X.K = K) : CallR X (.builtin "isinstance") (rIsA P w K) := by subst hP hw hK; exact call_isA
theorem op_inD' (hu : X.A.units + 1 < cLine) (hP : X.prog = P) (hw : X.w = w) (hK : X.K = K) : OpR X (compareOp .In) (Mk.rInD P w K) := by subst hP hw hK; exact Mk.op_inD hu
theorem op_notInD' (hu : X.A.units + 1 < cLine) (hP : X.prog = P) (hw : X.w = w) (hK : X.K = K) : OpR X (compareOp .NotIn) (Mk.rNotInD P w K) := by subst hP hw hK; exact Mk.op_notInD hu
theorem ix_dic' (hu : X.A.units + 1 < cLine) (hP : X.prog = P) (hw : X.w = w) (hK : X.K = K) : IxR X (Mk.rIxD P w K) := by subst hP hw hK; exact ix_dic hu
theorem ix_tup' (hK : X.K = K) : IxR X (rIxT K) := by subst hK; exact ix_tup
theorem call_dictPP' (hu : X.A.units + 3 < cLine) (hcalm : X.calm = true) (hP : X.prog = P) (hw : X.w = w) (hK : X.K = K) : CallR X (.type "dict") (rDictP P w K) := by subst hP hw hK; exact call_dictPP hu hcalm
theorem op_inDp (hu : X.A.units + 65 < cLine) (hK : X.K = K) : OpR X (compareOp .In) (L2.rInD K) := by subst hK; exact L2.op_inD hu
theorem op_notInDp (hu : X.A.units + 65 < cLine) (hK : X.K = K) : OpR X (compareOp .NotIn) (L2.rNotInD K) := by subst hK; exact L2.op_notInD hu
end
theorem pg_tupB {X : Cx} {K : PySem.W.Frag} {es : List Expr} {k : Nat} {t : TGs} {n : Nat} {pos : Pos} (hc : X.calm = true) (hK : X.K = K) (h : PGs X es t)
    (hn : (assignEach es X.env).length = n := by rfl) (hst : (assignEach es X.env).findIdx? (·.1) = none := by rfl) : PG X (.Tuple es k pos) (gTup K n t) := by subst hK; exact pg_tup hc h hn hst
theorem pe_eqv {X : Cx} {e : Expr} {t t' : TE} (h : PE X e t) (q : t = t') : PE X e t' := by subst q; exact h
end Mk


set_option Elab.async false
set_option linter.all false
set_option maxRecDepth 100000
set_option maxHeartbeats 2000000
/-! the text of the law's program -/
namespace Mk
open PySem PySem.Spec PyProof.Rows L2
def topS (i : Nat) : Stmt := PySem.Challenge.pw_cellsenough_k21_whole_tightest_numbers.main.body.getD i (.Pass ⟨0, 0, 0, 0⟩)
abbrev s_is_integer : Stmt := topS 8
abbrev N_is_integer : List Str := ["value"]
theorem sc_is_integer : FnScope N_is_integer ["value"] (defScope s_is_integer) := ⟨rfl, rfl, rfl, by decide +kernel, rfl, by decide +kernel, by decide +kernel⟩
abbrev s_is_name : Stmt := topS 9
abbrev N_is_name : List Str := ["value", "letter"]
theorem sc_is_name : FnScope N_is_name ["value"] (defScope s_is_name) := ⟨rfl, rfl, rfl, by decide +kernel, rfl, by decide +kernel, by decide +kernel⟩
abbrev s_is_new : Stmt := topS 15
abbrev N_is_new : List Str := ["value", "digit"]
theorem sc_is_new : FnScope N_is_new ["value"] (defScope s_is_new) := ⟨rfl, rfl, rfl, by decide +kernel, rfl, by decide +kernel, by decide +kernel⟩
abbrev s_is_place : Stmt := topS 16
abbrev N_is_place : List Str := ["value"]
theorem sc_is_place : FnScope N_is_place ["value"] (defScope s_is_place) := ⟨rfl, rfl, rfl, by decide +kernel, rfl, by decide +kernel, by decide +kernel⟩
abbrev s_is_point : Stmt := topS 17
abbrev N_is_point : List Str := ["value"]
theorem sc_is_point : FnScope N_is_point ["value"] (defScope s_is_point) := ⟨rfl, rfl, rfl, by decide +kernel, rfl, by decide +kernel, by decide +kernel⟩
abbrev s_is_difference : Stmt := topS 18
abbrev N_is_difference : List Str := ["value"]
theorem sc_is_difference : FnScope N_is_difference ["value"] (defScope s_is_difference) := ⟨rfl, rfl, rfl, by decide +kernel, rfl, by decide +kernel, by decide +kernel⟩
abbrev s_require_differences : Stmt := topS 19
abbrev N_require_differences : List Str := ["value", "row"]
theorem sc_require_differences : FnScope N_require_differences ["value"] (defScope s_require_differences) := ⟨rfl, rfl, rfl, by decide +kernel, rfl, by decide +kernel, by decide +kernel⟩
abbrev s_require_point : Stmt := topS 20
abbrev N_require_point : List Str := ["value"]
theorem sc_require_point : FnScope N_require_point ["value"] (defScope s_require_point) := ⟨rfl, rfl, rfl, by decide +kernel, rfl, by decide +kernel, by decide +kernel⟩
abbrev s_points_of : Stmt := topS 21
abbrev N_points_of : List Str := ["differences", "found", "one", "other", "number", "names", "point"]
theorem sc_points_of : FnScope N_points_of ["differences"] (defScope s_points_of) := ⟨rfl, rfl, rfl, by decide +kernel, rfl, by decide +kernel, by decide +kernel⟩
abbrev s_improved : Stmt := topS 22
abbrev N_improved : List Str := ["differences", "numbers", "steps", "is_changed", "index", "row", "one", "other", "number"]
theorem sc_improved : FnScope N_improved ["differences", "numbers", "steps"] (defScope s_improved) := ⟨rfl, rfl, rfl, by decide +kernel, rfl, by decide +kernel, by decide +kernel⟩
abbrev s_settled : Stmt := topS 23
abbrev N_settled : List Str := ["differences", "numbers", "steps", "points", "turn"]
theorem sc_settled : FnScope N_settled ["differences", "numbers"] (defScope s_settled) := ⟨rfl, rfl, rfl, by decide +kernel, rfl, by decide +kernel, by decide +kernel⟩
abbrev s_ring_in : Stmt := topS 24
abbrev N_ring_in : List Str := ["differences", "steps", "point", "start", "seen", "found", "here"]
theorem sc_ring_in : FnScope N_ring_in ["differences", "steps"] (defScope s_ring_in) := ⟨rfl, rfl, rfl, by decide +kernel, rfl, by decide +kernel, by decide +kernel⟩
abbrev s_ring_of : Stmt := topS 25
abbrev N_ring_of : List Str := ["differences", "steps", "has_ring", "point"]
theorem sc_ring_of : FnScope N_ring_of ["differences"] (defScope s_ring_of) := ⟨rfl, rfl, rfl, by decide +kernel, rfl, by decide +kernel, by decide +kernel⟩
abbrev s_fitted : Stmt := topS 26
abbrev N_fitted : List Str := ["differences", "points", "numbers", "point"]
theorem sc_fitted : FnScope N_fitted ["differences"] (defScope s_fitted) := ⟨rfl, rfl, rfl, by decide +kernel, rfl, by decide +kernel, by decide +kernel⟩
abbrev s_bound_of : Stmt := topS 27
abbrev N_bound_of : List Str := ["differences", "one", "other", "numbers"]
theorem sc_bound_of : FnScope N_bound_of ["differences", "one", "other"] (defScope s_bound_of) := ⟨rfl, rfl, rfl, by decide +kernel, rfl, by decide +kernel, by decide +kernel⟩
abbrev s_fitting : Stmt := topS 28
abbrev N_fitting : List Str := ["differences"]
theorem sc_fitting : FnScope N_fitting ["differences"] (defScope s_fitting) := ⟨rfl, rfl, rfl, by decide +kernel, rfl, by decide +kernel, by decide +kernel⟩
abbrev s_is_fitting : Stmt := topS 29
abbrev N_is_fitting : List Str := ["differences", "value", "points", "point", "one", "other", "number"]
theorem sc_is_fitting : FnScope N_is_fitting ["differences", "value"] (defScope s_is_fitting) := ⟨rfl, rfl, rfl, by decide +kernel, rfl, by decide +kernel, by decide +kernel⟩
abbrev s_ring : Stmt := topS 30
abbrev N_ring : List Str := ["differences"]
theorem sc_ring : FnScope N_ring ["differences"] (defScope s_ring) := ⟨rfl, rfl, rfl, by decide +kernel, rfl, by decide +kernel, by decide +kernel⟩
abbrev s_tightest : Stmt := topS 31
abbrev N_tightest : List Str := ["differences", "one", "other"]
theorem sc_tightest : FnScope N_tightest ["differences", "one", "other"] (defScope s_tightest) := ⟨rfl, rfl, rfl, by decide +kernel, rfl, by decide +kernel, by decide +kernel⟩
abbrev s__law_keg : Stmt := topS 33
abbrev N__law_keg : List Str := ["script", "at", "cell", "great", "seed"]
theorem sc__law_keg : FnScope N__law_keg ["script", "at"] (defScope s__law_keg) := ⟨rfl, rfl, rfl, by decide +kernel, rfl, by decide +kernel, by decide +kernel⟩
abbrev s__law_tap : Stmt := topS 34
abbrev N__law_tap : List Str := ["keg", "total", "found", "one", "two", "three"]
theorem sc__law_tap : FnScope N__law_tap ["keg", "total"] (defScope s__law_tap) := ⟨rfl, rfl, rfl, by decide +kernel, rfl, by decide +kernel, by decide +kernel⟩
abbrev s__law_choices : Stmt := topS 35
abbrev N__law_choices : List Str := ["keg", "items", "count", "left", "found", "turn"]
theorem sc__law_choices : FnScope N__law_choices ["keg", "items", "count"] (defScope s__law_choices) := ⟨rfl, rfl, rfl, by decide +kernel, rfl, by decide +kernel, by decide +kernel⟩
abbrev s__law_points_drawn : Stmt := topS 36
abbrev N__law_points_drawn : List Str := ["keg", "count", "some"]
theorem sc__law_points_drawn : FnScope N__law_points_drawn ["keg", "count"] (defScope s__law_points_drawn) := ⟨rfl, rfl, rfl, by decide +kernel, rfl, by decide +kernel, by decide +kernel⟩
abbrev s__law_choice : Stmt := topS 37
abbrev N__law_choice : List Str := ["keg", "items"]
theorem sc__law_choice : FnScope N__law_choice ["keg", "items"] (defScope s__law_choice) := ⟨rfl, rfl, rfl, by decide +kernel, rfl, by decide +kernel, by decide +kernel⟩
abbrev s__law_points_in : Stmt := topS 38
abbrev N__law_points_in : List Str := ["differences", "found", "row", "point", "names"]
theorem sc__law_points_in : FnScope N__law_points_in ["differences"] (defScope s__law_points_in) := ⟨rfl, rfl, rfl, by decide +kernel, rfl, by decide +kernel, by decide +kernel⟩
abbrev s__law_tried : Stmt := topS 39
abbrev N__law_tried : List Str := ["points", "most", "found", "point", "wider", "one", "number"]
theorem sc__law_tried : FnScope N__law_tried ["points", "most"] (defScope s__law_tried) := ⟨rfl, rfl, rfl, by decide +kernel, rfl, by decide +kernel, by decide +kernel⟩
abbrev s__law_are_true : Stmt := topS 40
abbrev N__law_are_true : List Str := ["differences", "numbers", "row"]
theorem sc__law_are_true : FnScope N__law_are_true ["differences", "numbers"] (defScope s__law_are_true) := ⟨rfl, rfl, rfl, by decide +kernel, rfl, by decide +kernel, by decide +kernel⟩
abbrev s__law_is_near : Stmt := topS 41
abbrev N__law_is_near : List Str := ["names", "most", "told"]
theorem sc__law_is_near : FnScope N__law_is_near ["names", "most", "told"] (defScope s__law_is_near) := ⟨rfl, rfl, rfl, by decide +kernel, rfl, by decide +kernel, by decide +kernel⟩
abbrev s__law_bound_right : Stmt := topS 42
abbrev N__law_bound_right : List Str := ["differences", "one", "other", "told", "far", "more"]
theorem sc__law_bound_right : FnScope N__law_bound_right ["differences", "one", "other", "told"] (defScope s__law_bound_right) := ⟨rfl, rfl, rfl, by decide +kernel, rfl, by decide +kernel, by decide +kernel⟩
abbrev s__law_right : Stmt := topS 43
abbrev N__law_right : List Str := ["keg", "points", "differences", "names", "most", "good", "one", "numbers", "other", "told", "met"]
theorem sc__law_right : FnScope N__law_right ["keg", "points", "differences"] (defScope s__law_right) := ⟨rfl, rfl, rfl, by decide +kernel, rfl, by decide +kernel, by decide +kernel⟩
abbrev s__law_sums_right : Stmt := topS 44
abbrev N__law_sums_right : List Str := ["differences", "names", "one", "middle", "left", "other", "right", "whole", "row"]
theorem sc__law_sums_right : FnScope N__law_sums_right ["differences"] (defScope s__law_sums_right) := ⟨rfl, rfl, rfl, by decide +kernel, rfl, by decide +kernel, by decide +kernel⟩
abbrev s_law : Stmt := topS 45
abbrev N_law : List Str := ["script", "at", "keg", "points", "turn", "found", "again", "one", "other", "differences"]
theorem sc_law : FnScope N_law ["script"] (defScope s_law) := ⟨rfl, rfl, rfl, by decide +kernel, rfl, by decide +kernel, by decide +kernel⟩
/-- what the top has -/
structure Tops (mg : Str → Option Value) : Prop where
  b_abs : mg "abs" = none
  b_all : mg "all" = none
  b_bool : mg "bool" = none
  b_dict : mg "dict" = none
  b_enumerate : mg "enumerate" = none
  b_int : mg "int" = none
  b_isinstance : mg "isinstance" = none
  b_iter : mg "iter" = none
  b_len : mg "len" = none
  b_list : mg "list" = none
  b_max : mg "max" = none
  b_min : mg "min" = none
  b_next : mg "next" = none
  b_range : mg "range" = none
  b_sorted : mg "sorted" = none
  b_str : mg "str" = none
  b_tuple : mg "tuple" = none
  c_MAX_NAME : IsC mg "MAX_NAME" (.int 8)
  c_GREATEST : IsC mg "GREATEST" (.int (10 ^ 60))
  c_LETTERS : IsC mg "LETTERS" (.str "abcdefghijklmnopqrstuvwxyz")
  c_MAX_DIFFERENCES : IsC mg "MAX_DIFFERENCES" (.int 60)
  c_ZERO : IsC mg "ZERO" (.str "")
  c_NEW_MARK : IsC mg "NEW_MARK" (.str "*")
  c_DIGITS : IsC mg "DIGITS" (.str "0123456789")
end Mk


set_option Elab.async false
set_option linter.all false
set_option maxRecDepth 100000
set_option maxHeartbeats 400000
/-! comprehensions and loops while the heap grows -/
namespace Mk
open PySem PySem.Spec PyProof.Rows L2
theorem c3 : ((3 : Nat) : Int) = 3 := rfl
theorem line_lt {n m : Nat} (h : n ≤ m) (hm : m ≤ 1000000 := by decide) : n < sizeLine := Nat.lt_of_le_of_lt (Nat.le_trans h hm) (by decide)
theorem line_le {n m : Nat} (h : n ≤ m) (hm : m ≤ 1000000 := by decide) : n ≤ sizeLine := Nat.le_of_lt (line_lt h hm)
theorem take_s {α : Type} {l : List α} {i : Nat} {a : α} (h : l[i]? = some a) : l.take (i + 1) = l.take i ++ [a] := by rw [List.take_add_one, h]; rfl
theorem take_len {α : Type} {l : List α} {i n : Nat} (h : l.length ≤ n) : (l.take i).length ≤ n := by rw [List.length_take]; omega
theorem pair_at {α β : Type} {R : α → β → Prop} {as : List α} {bs : List β} (h : Paired R as bs) : ∀ {i : Nat} {b : β}, bs[i]? = some b → ∃ a, as[i]? = some a ∧ R a b := by
  induction h with
  | nil => intro i b e; cases e
  | cons r t ih =>
    intro i b e
    cases i with
    | zero => exact ⟨_, rfl, by cases e; exact r⟩
    | succ i => exact ih e
theorem pair_at' {α β : Type} {R : α → β → Prop} {as : List α} {bs : List β} (h : Paired R as bs) : ∀ {i : Nat} {a : α}, as[i]? = some a → ∃ b, bs[i]? = some b ∧ R a b := by
  induction h with
  | nil => intro i b e; cases e
  | cons r t ih =>
    intro i b e
    cases i with
    | zero => exact ⟨_, rfl, by cases e; exact r⟩
    | succ i => exact ih e
/-- the new list at D holds what A says -/
def PvG (H : Hp) (D : Addr) (A : Nat → List V → Hp → Prop) (i : Nat) (H' : Hp) : Prop := Gx H H' ∧ ∃ ys, H' D = some (.lst ys) ∧ A i ys H'
section
variable {H H1 H4 : Hp} {D : Addr} {A : Nat → List V → Hp → Prop} {i : Nat} {ys : List V} {y : V}
theorem PvG.ini (hD : H D = none) (a : A 0 [] (upd H D (.lst []))) : PvG H D A 0 (upd H D (.lst [])) := ⟨.new hD, [], upd_same, a⟩
theorem PvG.put (g : Gx H H4) (hD : H D = none) (e : H4 D = some (.lst ys)) (hl : ys.length < sizeLine) (a : A (i + 1) (ys ++ [y]) (upd H4 D (.lst (ys ++ [y])))) :
    ∃ acc, H4 D = some (.lst acc) ∧ acc.length < sizeLine ∧ PvG H D A (i + 1) (upd H4 D (.lst (acc ++ [y]))) := ⟨ys, e, hl, g.mut hD, _, upd_same, a⟩
end
/-- the lists by maps -/
def AMap {α : Type} (l : List α) (f : α → V) : Nat → List V → Hp → Prop := fun i ys _ => ys = (l.take i).map f
def AFil {α : Type} (l : List α) (p : α → Bool) (f : α → V) : Nat → List V → Hp → Prop := fun i ys _ => ys = ((l.take i).filter p).map f
section
variable {α : Type} {l : List α} {f : α → V} {p : α → Bool} {i : Nat} {a : α} {ys : List V} {H : Hp}
theorem AMap.ini : AMap l f 0 [] H := by rw [AMap, List.take_zero]; rfl
theorem AMap.put (h : AMap l f i ys H) {H' : Hp} (e : l[i]? = some a) : AMap l f (i + 1) (ys ++ [f a]) H' := by
  rw [AMap] at *
  rw [take_s e, List.map_append, h]; rfl
theorem AMap.fin (h : AMap l f l.length ys H) : ys = l.map f := by rw [AMap, List.take_length] at h; exact h
theorem AMap.len (h : AMap l f i ys H) {n : Nat} (hn : l.length ≤ n) : ys.length ≤ n := by rw [h, List.length_map]; exact take_len hn
theorem AFil.ini : AFil l p f 0 [] H := by rw [AFil, List.take_zero]; rfl
theorem AFil.put (h : AFil l p f i ys H) {H' : Hp} (e : l[i]? = some a) (hp : p a = true) : AFil l p f (i + 1) (ys ++ [f a]) H' := by
  rw [AFil] at *
  rw [take_s e, List.filter_append, List.map_append, h, List.filter_cons_of_pos hp]; rfl
theorem AFil.skip (h : AFil l p f i ys H) {H' : Hp} (e : l[i]? = some a) (hp : p a = false) : AFil l p f (i + 1) ys H' := by
  rw [AFil] at *
  rw [take_s e, List.filter_append, h, List.filter_cons_of_neg (by simp [hp])]; simp
theorem AFil.fin (h : AFil l p f l.length ys H) : ys = (l.filter p).map f := by rw [AFil, List.take_length] at h; exact h
theorem AFil.len (h : AFil l p f i ys H) {n : Nat} (hn : l.length ≤ n) : ys.length ≤ n := by
  rw [h, List.length_map]
  exact Nat.le_trans (List.length_filter_le _ _) (take_len hn)
end
theorem all_bl {α : Type} {l : List α} {f : α → Bool} : ((l.map f).all id) = l.all f := by rw [List.all_map]; rfl
end Mk


set_option Elab.async false
set_option linter.all false
set_option maxRecDepth 100000
set_option maxHeartbeats 400000
/-! the plain judges: is_integer, is_name, is_new, is_place, is_point, is_difference -/
namespace Mk
open PySem PySem.Spec PyProof.Rows L2
section
variable {P : Program} {w : World} {K : PySem.W.Frag} {mg : Str → Option Value} {base : Heap}
theorem isA {H : Hp} {Q : VK} {x : V} {t T : String} {b : Bool} (h : TyA P w K H x t) (e : kitB t T = some b) (q : Q (.bl b) H) : rIsA P w K [x, .ty T] H Q := ⟨x, T, t, b, rfl, h, e, q⟩
def spIsInt : Sp := fun vs H Q _ => ∃ i : Int, vs = [.int i] ∧ -(10 ^ 60) < i ∧ i < 10 ^ 60 ∧ Q (.bl true) H
theorem C_is_integer (T : Tops mg) (D : Def K mg "is_integer" s_is_integer ["value"]) : Cal P w K mg base "is_integer" 1 ["value"] spIsInt := by
  refine Cal.of D sc_is_integer (fun vs H Q E h => ?_) (fun f cdv A outer s H vs Q E hr h => ?_)
  · obtain ⟨i, rfl, _⟩ := h; rfl
  · obtain ⟨i, rfl, h1, h2, q⟩ := h
    have hu := hu_of hr
    have h0 := hr.units0
    refine ⟨_, (pss_one (ps_ret (pe_and (pe_callB (call_isA' (P := P) (w := w) (K := K) rfl rfl rfl) (by rfl) T.b_isinstance (by decide +kernel) (pa_cons (pv 0) (pa_cons (pe_bltn (v := .ty "int") (u := .type "int") (by rfl) T.b_int (by decide +kernel) rfl) pa_nil))) (pe_and (pe_not (pe_callB (call_isA' (P := P) (w := w) (K := K) rfl rfl rfl) (by rfl) T.b_isinstance (by decide +kernel) (pa_cons (pv 0) (pa_cons (pe_bltn (v := .ty "bool") (u := .type "bool") (by rfl) T.b_bool (by decide +kernel) rfl) pa_nil)))) (pe_one (pe_chain op_lt op_lt (pe_un un_neg (pe_const T.c_GREATEST (by rfl))) (pv 0) (pe_const T.c_GREATEST (by rfl)))))))), ?_⟩
    simp only [cxOf, Cx.nox, L2.start, tRet, tAndV, tOrV, tNotV, tCB, tCons, tNil, tVar, tC, tOp, tUn, tChain, tIfS, tTest, tSeq, tNext, tB, tOr, tAnd, tNot, tAsg, tDrop, tCall, rI0, rI, rU, List.cons_append, List.nil_append, List.append_nil, List.map_cons, List.map_nil, List.length_cons, List.length_nil, Nat.reduceAdd, Nat.reduceSub, List.replicate_succ, List.replicate_zero, List.getElem?_cons_zero, List.getElem?_cons_succ, Option.some.injEq, exists_eq_left, exists_eq_left', exists_eq_right, V.int.injEq, V.bl.injEq, V.str.injEq, V.ref.injEq, true_and, and_true, exists_and_left, if_true, if_false, gTup, gCons, gNil, gSub, gName, Mk.rSetD, List.set_cons_zero, List.set_cons_succ, Bool.false_eq_true, List.cons.injEq, Bool.not_true, Bool.not_false, eq_self, decide_true, decide_false, c3, N_is_integer]
    refine isA (.int i) rfl ?_
    simp only [cxOf, Cx.nox, L2.start, tRet, tAndV, tOrV, tNotV, tCB, tCons, tNil, tVar, tC, tOp, tUn, tChain, tIfS, tTest, tSeq, tNext, tB, tOr, tAnd, tNot, tAsg, tDrop, tCall, rI0, rI, rU, List.cons_append, List.nil_append, List.append_nil, List.map_cons, List.map_nil, List.length_cons, List.length_nil, Nat.reduceAdd, Nat.reduceSub, List.replicate_succ, List.replicate_zero, List.getElem?_cons_zero, List.getElem?_cons_succ, Option.some.injEq, exists_eq_left, exists_eq_left', exists_eq_right, V.int.injEq, V.bl.injEq, V.str.injEq, V.ref.injEq, true_and, and_true, exists_and_left, if_true, if_false, gTup, gCons, gNil, gSub, gName, Mk.rSetD, List.set_cons_zero, List.set_cons_succ, Bool.false_eq_true, List.cons.injEq, Bool.not_true, Bool.not_false, eq_self, decide_true, decide_false, c3]
    refine isA (.int i) rfl ?_
    simp only [cxOf, Cx.nox, L2.start, tRet, tAndV, tOrV, tNotV, tCB, tCons, tNil, tVar, tC, tOp, tUn, tChain, tIfS, tTest, tSeq, tNext, tB, tOr, tAnd, tNot, tAsg, tDrop, tCall, rI0, rI, rU, List.cons_append, List.nil_append, List.append_nil, List.map_cons, List.map_nil, List.length_cons, List.length_nil, Nat.reduceAdd, Nat.reduceSub, List.replicate_succ, List.replicate_zero, List.getElem?_cons_zero, List.getElem?_cons_succ, Option.some.injEq, exists_eq_left, exists_eq_left', exists_eq_right, V.int.injEq, V.bl.injEq, V.str.injEq, V.ref.injEq, true_and, and_true, exists_and_left, if_true, if_false, gTup, gCons, gNil, gSub, gName, Mk.rSetD, List.set_cons_zero, List.set_cons_succ, Bool.false_eq_true, List.cons.injEq, Bool.not_true, Bool.not_false, eq_self, decide_true, decide_false, c3, h1, h2, decide_true]
    exact q
def letterB (c : Nat) : Bool := decide (c ∈ ("abcdefghijklmnopqrstuvwxyz" : Str).cps.toList)
def nameB (z : Str) : Bool := decide (1 ≤ z.length) && decide (z.length ≤ 8) && z.cps.toList.all letterB
def spIsName : Sp := fun vs H Q _ => ∃ z : Str, vs = [.str z] ∧ z.length ≤ 1000 ∧ ∀ H', Gx H H' → Q (.bl (nameB z)) H'
theorem len_of {z : Str} {l : List Nat} (h : z.cps.toList = l) : z.length = l.length := by rw [← h]; rfl
theorem cut1S {z : Str} {c : Nat} {l : List Nat} (h : z.cps.toList = c :: l) : cutS z (some 1) none = ⟨l.toArray⟩ := by
  unfold cutS
  rw [len_of h, h, show HT.sIx (c :: l).length 0 (some 1) = min 1 (c :: l).length from HT.sIx_nat _ 0 1, HT.sIx_none, List.length_cons, show min 1 (l.length + 1) = 1 by omega, show l.length + 1 - 1 = l.length by omega, List.drop_one, List.tail_cons, List.take_length]
theorem star_is {c : Nat} : ((⟨#[c]⟩ : Str) = Str.ofString "*") = (c = 42) := by rw [show Str.ofString "*" = ⟨#[42]⟩ from rfl]; simp
theorem nil_is {c : Nat} : ((⟨#[c]⟩ : Str) = Str.ofString "0") = (c = 48) := by rw [show Str.ofString "0" = ⟨#[48]⟩ from rfl]; simp
theorem C_is_name (T : Tops mg) (D : Def K mg "is_name" s_is_name ["value"]) : Cal P w K mg base "is_name" 1 ["value"] spIsName := by
  refine Cal.of D sc_is_name (fun vs H Q E h => ?_) (fun f cdv A outer s H vs Q E hr h => ?_)
  · obtain ⟨i, rfl, _⟩ := h; rfl
  · obtain ⟨z, rfl, hl, q⟩ := h
    have hu := hu_of hr
    have h0 := hr.units0
    refine ⟨_, (pss_one (ps_ret (pe_and (pe_callB (call_isA' (P := P) (w := w) (K := K) rfl rfl rfl) (by rfl) T.b_isinstance (by decide +kernel) (pa_cons (pv 0) (pa_cons (pe_bltn (v := .ty "str") (u := .type "str") (by rfl) T.b_str (by decide +kernel) rfl) pa_nil))) (pe_and (pe_chain op_le op_le pe_int (pe_callB call_len_str (by rfl) T.b_len (by decide +kernel) (pa_cons (pv 0) pa_nil)) (pe_const T.c_MAX_NAME (by rfl))) (pe_one (pe_callB (cr_all rfl) (by rfl) T.b_all (by decide +kernel) (pa_cons (pe_lc (own := [("letter", 1)]) rfl sc_is_name.nd (pi_str (pv 0)) (blkOk_by (own := [("letter", 1)]) (N := N_is_name) (sc := defScope s_is_name) (by decide +kernel)) (fun _ _ _ _ _ => (pg_name (i := 1) sc_is_name.nd rfl (Or.inl rfl))) (fun _ _ _ _ _ => pts_nil) (fun _ _ _ _ _ => (pe_cmpR op_in_sign (pv 1) (pe_const T.c_LETTERS (by rfl)) (by rfl)))) pa_nil))))))), ?_⟩
    simp only [cxOf, Cx.nox, L2.start, tRet, tAndV, tOrV, tNotV, tCB, tCons, tNil, tVar, tC, tOp, tUn, tChain, tIfS, tTest, tSeq, tNext, tB, tOr, tAnd, tNot, tAsg, tDrop, tCall, rI0, rI, rU, List.cons_append, List.nil_append, List.append_nil, List.map_cons, List.map_nil, List.length_cons, List.length_nil, Nat.reduceAdd, Nat.reduceSub, List.replicate_succ, List.replicate_zero, List.getElem?_cons_zero, List.getElem?_cons_succ, Option.some.injEq, exists_eq_left, exists_eq_left', exists_eq_right, V.int.injEq, V.bl.injEq, V.str.injEq, V.ref.injEq, true_and, and_true, exists_and_left, if_true, if_false, gTup, gCons, gNil, gSub, gName, Mk.rSetD, List.set_cons_zero, List.set_cons_succ, Bool.false_eq_true, List.cons.injEq, Bool.not_true, Bool.not_false, eq_self, decide_true, decide_false, c3, N_is_name]
    refine isA (.str z) rfl ?_
    simp only [cxOf, Cx.nox, L2.start, tRet, tAndV, tOrV, tNotV, tCB, tCons, tNil, tVar, tC, tOp, tUn, tChain, tIfS, tTest, tSeq, tNext, tB, tOr, tAnd, tNot, tAsg, tDrop, tCall, rI0, rI, rU, List.cons_append, List.nil_append, List.append_nil, List.map_cons, List.map_nil, List.length_cons, List.length_nil, Nat.reduceAdd, Nat.reduceSub, List.replicate_succ, List.replicate_zero, List.getElem?_cons_zero, List.getElem?_cons_succ, Option.some.injEq, exists_eq_left, exists_eq_left', exists_eq_right, V.int.injEq, V.bl.injEq, V.str.injEq, V.ref.injEq, true_and, and_true, exists_and_left, if_true, if_false, gTup, gCons, gNil, gSub, gName, Mk.rSetD, List.set_cons_zero, List.set_cons_succ, Bool.false_eq_true, List.cons.injEq, Bool.not_true, Bool.not_false, eq_self, decide_true, decide_false, c3, N_is_name]
    refine ⟨line_le hl, ?_⟩
    by_cases a1 : 1 ≤ z.length
    · by_cases a2 : z.length ≤ 8
      · have b1 : (1 : Int) ≤ z.length := by omega
        have b2 : (z.length : Int) ≤ 8 := by omega
        simp only [cxOf, Cx.nox, L2.start, tRet, tAndV, tOrV, tNotV, tCB, tCons, tNil, tVar, tC, tOp, tUn, tChain, tIfS, tTest, tSeq, tNext, tB, tOr, tAnd, tNot, tAsg, tDrop, tCall, rI0, rI, rU, List.cons_append, List.nil_append, List.append_nil, List.map_cons, List.map_nil, List.length_cons, List.length_nil, Nat.reduceAdd, Nat.reduceSub, List.replicate_succ, List.replicate_zero, List.getElem?_cons_zero, List.getElem?_cons_succ, Option.some.injEq, exists_eq_left, exists_eq_left', exists_eq_right, V.int.injEq, V.bl.injEq, V.str.injEq, V.ref.injEq, true_and, and_true, exists_and_left, if_true, if_false, gTup, gCons, gNil, gSub, gName, Mk.rSetD, List.set_cons_zero, List.set_cons_succ, Bool.false_eq_true, List.cons.injEq, Bool.not_true, Bool.not_false, eq_self, decide_true, decide_false, c3, b1, b2, decide_true]
        refine ⟨_, rfl, z, rfl, fun D hD => lc_it walk_str (PvG H D (AMap z.cps.toList fun c => V.bl (letterB c))) (.ini hD .ini) (fun _ _ _ _ => trivial) (fun i x H1 H2 hi hP hY => ?_) (fun H1 hP => ?_)⟩
        · obtain ⟨rfl, c, hc, rfl⟩ := hY
          obtain ⟨g, ys, e, a⟩ := hP
          simp only [cxOf, Cx.nox, L2.start, tRet, tAndV, tOrV, tNotV, tCB, tCons, tNil, tVar, tC, tOp, tUn, tChain, tIfS, tTest, tSeq, tNext, tB, tOr, tAnd, tNot, tAsg, tDrop, tCall, rI0, rI, rU, List.cons_append, List.nil_append, List.append_nil, List.map_cons, List.map_nil, List.length_cons, List.length_nil, Nat.reduceAdd, Nat.reduceSub, List.replicate_succ, List.replicate_zero, List.getElem?_cons_zero, List.getElem?_cons_succ, Option.some.injEq, exists_eq_left, exists_eq_left', exists_eq_right, V.int.injEq, V.bl.injEq, V.str.injEq, V.ref.injEq, true_and, and_true, exists_and_left, if_true, if_false, gTup, gCons, gNil, gSub, gName, Mk.rSetD, List.set_cons_zero, List.set_cons_succ, Bool.false_eq_true, List.cons.injEq, Bool.not_true, Bool.not_false, eq_self, decide_true, decide_false, c3, gName, tYes]
          exact ⟨rfl, _, rfl, c, rfl, PvG.put g hD e (line_lt (a.len (n := 1000) hl)) (a.put (by simpa using hc))⟩
        · obtain ⟨g, ys, e, a⟩ := hP
          have a := AMap.fin (l := z.cps.toList) (by simpa using a)
          refine ⟨D, z.cps.toList.map letterB, rfl, .inl (.inl (by rw [e, a, List.map_map]; rfl)), ?_⟩
          have := q _ g
          rw [nameB, decide_eq_true a1, decide_eq_true a2] at this
          rw [all_bl]
          exact this
      · have b1 : (1 : Int) ≤ z.length := by omega
        have b2 : ¬ (z.length : Int) ≤ 8 := by omega
        simp only [cxOf, Cx.nox, L2.start, tRet, tAndV, tOrV, tNotV, tCB, tCons, tNil, tVar, tC, tOp, tUn, tChain, tIfS, tTest, tSeq, tNext, tB, tOr, tAnd, tNot, tAsg, tDrop, tCall, rI0, rI, rU, List.cons_append, List.nil_append, List.append_nil, List.map_cons, List.map_nil, List.length_cons, List.length_nil, Nat.reduceAdd, Nat.reduceSub, List.replicate_succ, List.replicate_zero, List.getElem?_cons_zero, List.getElem?_cons_succ, Option.some.injEq, exists_eq_left, exists_eq_left', exists_eq_right, V.int.injEq, V.bl.injEq, V.str.injEq, V.ref.injEq, true_and, and_true, exists_and_left, if_true, if_false, gTup, gCons, gNil, gSub, gName, Mk.rSetD, List.set_cons_zero, List.set_cons_succ, Bool.false_eq_true, List.cons.injEq, Bool.not_true, Bool.not_false, eq_self, decide_true, decide_false, c3, b1, b2, decide_true, decide_false]
        have := q H .refl
        rw [nameB, decide_eq_false a2] at this
        simpa using this
    · have b1 : ¬ (1 : Int) ≤ z.length := by omega
      simp only [cxOf, Cx.nox, L2.start, tRet, tAndV, tOrV, tNotV, tCB, tCons, tNil, tVar, tC, tOp, tUn, tChain, tIfS, tTest, tSeq, tNext, tB, tOr, tAnd, tNot, tAsg, tDrop, tCall, rI0, rI, rU, List.cons_append, List.nil_append, List.append_nil, List.map_cons, List.map_nil, List.length_cons, List.length_nil, Nat.reduceAdd, Nat.reduceSub, List.replicate_succ, List.replicate_zero, List.getElem?_cons_zero, List.getElem?_cons_succ, Option.some.injEq, exists_eq_left, exists_eq_left', exists_eq_right, V.int.injEq, V.bl.injEq, V.str.injEq, V.ref.injEq, true_and, and_true, exists_and_left, if_true, if_false, gTup, gCons, gNil, gSub, gName, Mk.rSetD, List.set_cons_zero, List.set_cons_succ, Bool.false_eq_true, List.cons.injEq, Bool.not_true, Bool.not_false, eq_self, decide_true, decide_false, c3, b1, decide_false]
      have := q H .refl
      rw [nameB, decide_eq_false a1] at this
      simpa using this
def digitB (c : Nat) : Bool := decide (c ∈ ("0123456789" : Str).cps.toList)
/-- a '*' and a number that does not begin with 0 -/
def newB (z : Str) : Bool := match z.cps.toList with
  | c :: d :: r => decide (c = 42) && !decide (d = 48) && (d :: r).all digitB
  | _ => false
def spIsNew : Sp := fun vs H Q _ => ∃ z : Str, vs = [.str z] ∧ z.length ≤ 1000 ∧ ∀ H', Gx H H' → Q (.bl (newB z)) H'
theorem C_is_new (T : Tops mg) (D : Def K mg "is_new" s_is_new ["value"]) : Cal P w K mg base "is_new" 1 ["value"] spIsNew := by
  refine Cal.of D sc_is_new (fun vs H Q E h => ?_) (fun f cdv A outer s H vs Q E hr h => ?_)
  · obtain ⟨i, rfl, _⟩ := h; rfl
  · obtain ⟨z, rfl, hl, q⟩ := h
    have hu := hu_of hr
    have h0 := hr.units0
    refine ⟨_, (pss_cons (ps_if (PW.pt (pw_or (pt_not (pt_val (pe_callB (call_isA' (P := P) (w := w) (K := K) rfl rfl rfl) (by rfl) T.b_isinstance (by decide +kernel) (pa_cons (pv 0) (pa_cons (pe_bltn (v := .ty "str") (u := .type "str") (by rfl) T.b_str (by decide +kernel) rfl) pa_nil))))) (pw_or (pt_cmpR op_lt (pe_callB call_len_str (by rfl) T.b_len (by decide +kernel) (pa_cons (pv 0) pa_nil)) pe_int (nomark _)) (pw_or (pt_cmpR op_ne (pe_ix ix_str (pv 0) pe_int (fun _ _ => rfl)) (pe_const T.c_NEW_MARK (by rfl)) (nomark _)) (pw_or1 (pt_cmpR op_eq (pe_ix ix_str (pv 0) pe_int (fun _ _ => rfl)) pe_str (nomark _))))))) (pss_one (ps_ret pe_bl)) pss_nil)
      (pss_one (ps_ret (pe_callB (cr_all rfl) (by rfl) T.b_all (by decide +kernel) (pa_cons (pe_lc (own := [("digit", 1)]) rfl sc_is_new.nd (pi_str (pe_slice sl_str (pv 0) (po_some pe_int) po_none)) (blkOk_by (own := [("digit", 1)]) (N := N_is_new) (sc := defScope s_is_new) (by decide +kernel)) (fun _ _ _ _ _ => (pg_name (i := 1) sc_is_new.nd rfl (Or.inl rfl))) (fun _ _ _ _ _ => pts_nil) (fun _ _ _ _ _ => (pe_cmpR op_in_sign (pv 1) (pe_const T.c_DIGITS (by rfl)) (by rfl)))) pa_nil))))), ?_⟩
    simp only [cxOf, Cx.nox, L2.start, tRet, tAndV, tOrV, tNotV, tCB, tCons, tNil, tVar, tC, tOp, tUn, tChain, tIfS, tTest, tSeq, tNext, tB, tOr, tAnd, tNot, tAsg, tDrop, tCall, rI0, rI, rU, List.cons_append, List.nil_append, List.append_nil, List.map_cons, List.map_nil, List.length_cons, List.length_nil, Nat.reduceAdd, Nat.reduceSub, List.replicate_succ, List.replicate_zero, List.getElem?_cons_zero, List.getElem?_cons_succ, Option.some.injEq, exists_eq_left, exists_eq_left', exists_eq_right, V.int.injEq, V.bl.injEq, V.str.injEq, V.ref.injEq, true_and, and_true, exists_and_left, if_true, if_false, gTup, gCons, gNil, gSub, gName, Mk.rSetD, List.set_cons_zero, List.set_cons_succ, Bool.false_eq_true, List.cons.injEq, Bool.not_true, Bool.not_false, eq_self, decide_true, decide_false, c3, N_is_new]
    refine isA (.str z) rfl ?_
    simp only [cxOf, Cx.nox, L2.start, tRet, tAndV, tOrV, tNotV, tCB, tCons, tNil, tVar, tC, tOp, tUn, tChain, tIfS, tTest, tSeq, tNext, tB, tOr, tAnd, tNot, tAsg, tDrop, tCall, rI0, rI, rU, List.cons_append, List.nil_append, List.append_nil, List.map_cons, List.map_nil, List.length_cons, List.length_nil, Nat.reduceAdd, Nat.reduceSub, List.replicate_succ, List.replicate_zero, List.getElem?_cons_zero, List.getElem?_cons_succ, Option.some.injEq, exists_eq_left, exists_eq_left', exists_eq_right, V.int.injEq, V.bl.injEq, V.str.injEq, V.ref.injEq, true_and, and_true, exists_and_left, if_true, if_false, gTup, gCons, gNil, gSub, gName, Mk.rSetD, List.set_cons_zero, List.set_cons_succ, Bool.false_eq_true, List.cons.injEq, Bool.not_true, Bool.not_false, eq_self, decide_true, decide_false, c3]
    refine ⟨line_le hl, ?_⟩
    have q0 := q H .refl
    rcases hz : z.cps.toList with _ | ⟨c, _ | ⟨d, r⟩⟩
    · have b1 : (z.length : Int) < 2 := by rw [len_of hz]; decide
      rw [newB, hz] at q0
      simp only [cxOf, Cx.nox, L2.start, tRet, tAndV, tOrV, tNotV, tCB, tCons, tNil, tVar, tC, tOp, tUn, tChain, tIfS, tTest, tSeq, tNext, tB, tOr, tAnd, tNot, tAsg, tDrop, tCall, rI0, rI, rU, List.cons_append, List.nil_append, List.append_nil, List.map_cons, List.map_nil, List.length_cons, List.length_nil, Nat.reduceAdd, Nat.reduceSub, List.replicate_succ, List.replicate_zero, List.getElem?_cons_zero, List.getElem?_cons_succ, Option.some.injEq, exists_eq_left, exists_eq_left', exists_eq_right, V.int.injEq, V.bl.injEq, V.str.injEq, V.ref.injEq, true_and, and_true, exists_and_left, if_true, if_false, gTup, gCons, gNil, gSub, gName, Mk.rSetD, List.set_cons_zero, List.set_cons_succ, Bool.false_eq_true, List.cons.injEq, Bool.not_true, Bool.not_false, eq_self, decide_true, decide_false, c3, b1]
      exact q0
    · have b1 : (z.length : Int) < 2 := by rw [len_of hz, List.length_singleton]; decide
      rw [newB, hz] at q0
      simp only [cxOf, Cx.nox, L2.start, tRet, tAndV, tOrV, tNotV, tCB, tCons, tNil, tVar, tC, tOp, tUn, tChain, tIfS, tTest, tSeq, tNext, tB, tOr, tAnd, tNot, tAsg, tDrop, tCall, rI0, rI, rU, List.cons_append, List.nil_append, List.append_nil, List.map_cons, List.map_nil, List.length_cons, List.length_nil, Nat.reduceAdd, Nat.reduceSub, List.replicate_succ, List.replicate_zero, List.getElem?_cons_zero, List.getElem?_cons_succ, Option.some.injEq, exists_eq_left, exists_eq_left', exists_eq_right, V.int.injEq, V.bl.injEq, V.str.injEq, V.ref.injEq, true_and, and_true, exists_and_left, if_true, if_false, gTup, gCons, gNil, gSub, gName, Mk.rSetD, List.set_cons_zero, List.set_cons_succ, Bool.false_eq_true, List.cons.injEq, Bool.not_true, Bool.not_false, eq_self, decide_true, decide_false, c3, b1]
      exact q0
    · have b1 : ¬ (z.length : Int) < 2 := by rw [len_of hz, List.length_cons, List.length_cons]; omega
      rw [newB, hz] at q0
      simp only [cxOf, Cx.nox, L2.start, tRet, tAndV, tOrV, tNotV, tCB, tCons, tNil, tVar, tC, tOp, tUn, tChain, tIfS, tTest, tSeq, tNext, tB, tOr, tAnd, tNot, tAsg, tDrop, tCall, rI0, rI, rU, List.cons_append, List.nil_append, List.append_nil, List.map_cons, List.map_nil, List.length_cons, List.length_nil, Nat.reduceAdd, Nat.reduceSub, List.replicate_succ, List.replicate_zero, List.getElem?_cons_zero, List.getElem?_cons_succ, Option.some.injEq, exists_eq_left, exists_eq_left', exists_eq_right, V.int.injEq, V.bl.injEq, V.str.injEq, V.ref.injEq, true_and, and_true, exists_and_left, if_true, if_false, gTup, gCons, gNil, gSub, gName, Mk.rSetD, List.set_cons_zero, List.set_cons_succ, Bool.false_eq_true, List.cons.injEq, Bool.not_true, Bool.not_false, eq_self, decide_true, decide_false, c3, b1, decide_false]
      refine ⟨z, 0, c, rfl, rfl, line_le hl, by rw [hz]; exact atI_nat (j := 0) rfl, rfl, ?_⟩
      by_cases c1 : c = 42
      · subst c1
        simp only [cxOf, Cx.nox, L2.start, tRet, tAndV, tOrV, tNotV, tCB, tCons, tNil, tVar, tC, tOp, tUn, tChain, tIfS, tTest, tSeq, tNext, tB, tOr, tAnd, tNot, tAsg, tDrop, tCall, rI0, rI, rU, List.cons_append, List.nil_append, List.append_nil, List.map_cons, List.map_nil, List.length_cons, List.length_nil, Nat.reduceAdd, Nat.reduceSub, List.replicate_succ, List.replicate_zero, List.getElem?_cons_zero, List.getElem?_cons_succ, Option.some.injEq, exists_eq_left, exists_eq_left', exists_eq_right, V.int.injEq, V.bl.injEq, V.str.injEq, V.ref.injEq, true_and, and_true, exists_and_left, if_true, if_false, gTup, gCons, gNil, gSub, gName, Mk.rSetD, List.set_cons_zero, List.set_cons_succ, Bool.false_eq_true, List.cons.injEq, Bool.not_true, Bool.not_false, eq_self, decide_true, decide_false, c3, star_is, nil_is, decide_true]
        refine ⟨z, 1, d, rfl, rfl, line_le hl, by rw [hz]; exact atI_nat (j := 1) rfl, rfl, ?_⟩
        by_cases c2 : d = 48
        · subst c2
          simp only [cxOf, Cx.nox, L2.start, tRet, tAndV, tOrV, tNotV, tCB, tCons, tNil, tVar, tC, tOp, tUn, tChain, tIfS, tTest, tSeq, tNext, tB, tOr, tAnd, tNot, tAsg, tDrop, tCall, rI0, rI, rU, List.cons_append, List.nil_append, List.append_nil, List.map_cons, List.map_nil, List.length_cons, List.length_nil, Nat.reduceAdd, Nat.reduceSub, List.replicate_succ, List.replicate_zero, List.getElem?_cons_zero, List.getElem?_cons_succ, Option.some.injEq, exists_eq_left, exists_eq_left', exists_eq_right, V.int.injEq, V.bl.injEq, V.str.injEq, V.ref.injEq, true_and, and_true, exists_and_left, if_true, if_false, gTup, gCons, gNil, gSub, gName, Mk.rSetD, List.set_cons_zero, List.set_cons_succ, Bool.false_eq_true, List.cons.injEq, Bool.not_true, Bool.not_false, eq_self, decide_true, decide_false, c3, star_is, nil_is, decide_true]
          simpa using q0
        · simp only [cxOf, Cx.nox, L2.start, tRet, tAndV, tOrV, tNotV, tCB, tCons, tNil, tVar, tC, tOp, tUn, tChain, tIfS, tTest, tSeq, tNext, tB, tOr, tAnd, tNot, tAsg, tDrop, tCall, rI0, rI, rU, List.cons_append, List.nil_append, List.append_nil, List.map_cons, List.map_nil, List.length_cons, List.length_nil, Nat.reduceAdd, Nat.reduceSub, List.replicate_succ, List.replicate_zero, List.getElem?_cons_zero, List.getElem?_cons_succ, Option.some.injEq, exists_eq_left, exists_eq_left', exists_eq_right, V.int.injEq, V.bl.injEq, V.str.injEq, V.ref.injEq, true_and, and_true, exists_and_left, if_true, if_false, gTup, gCons, gNil, gSub, gName, Mk.rSetD, List.set_cons_zero, List.set_cons_succ, Bool.false_eq_true, List.cons.injEq, Bool.not_true, Bool.not_false, eq_self, decide_true, decide_false, c3, star_is, nil_is, c2, decide_false]
          refine ⟨_, rfl, _, rfl, z, rfl, line_le hl, _, rfl, fun D hD => ?_⟩
          rw [cut1S hz]
          refine lc_it walk_str (PvG H D (AMap (d :: r) fun c => V.bl (digitB c))) (PvG.ini hD .ini) (fun _ _ _ _ => trivial) (fun i x H1 H2 hi hP hY => ?_) (fun H1 hP => ?_)
          · obtain ⟨rfl, c, hc, rfl⟩ := hY
            obtain ⟨g, ys, e, a⟩ := hP
            simp only [cxOf, Cx.nox, L2.start, tRet, tAndV, tOrV, tNotV, tCB, tCons, tNil, tVar, tC, tOp, tUn, tChain, tIfS, tTest, tSeq, tNext, tB, tOr, tAnd, tNot, tAsg, tDrop, tCall, rI0, rI, rU, List.cons_append, List.nil_append, List.append_nil, List.map_cons, List.map_nil, List.length_cons, List.length_nil, Nat.reduceAdd, Nat.reduceSub, List.replicate_succ, List.replicate_zero, List.getElem?_cons_zero, List.getElem?_cons_succ, Option.some.injEq, exists_eq_left, exists_eq_left', exists_eq_right, V.int.injEq, V.bl.injEq, V.str.injEq, V.ref.injEq, true_and, and_true, exists_and_left, if_true, if_false, gTup, gCons, gNil, gSub, gName, Mk.rSetD, List.set_cons_zero, List.set_cons_succ, Bool.false_eq_true, List.cons.injEq, Bool.not_true, Bool.not_false, eq_self, decide_true, decide_false, c3, gName, tYes]
            exact ⟨rfl, _, rfl, c, rfl, PvG.put g hD e (line_lt (a.len (n := 1000) (by rw [len_of hz] at hl; simp at hl ⊢; omega))) (a.put (by simpa using hc))⟩
          · obtain ⟨g, ys, e, a⟩ := hP
            have a := AMap.fin (l := d :: r) (by simpa using a)
            refine ⟨D, (d :: r).map digitB, rfl, .inl (.inl (by rw [e, a, List.map_map]; rfl)), ?_⟩
            have := q _ g
            rw [newB, hz] at this
            rw [all_bl]
            simpa [c2] using this
      · simp only [cxOf, Cx.nox, L2.start, tRet, tAndV, tOrV, tNotV, tCB, tCons, tNil, tVar, tC, tOp, tUn, tChain, tIfS, tTest, tSeq, tNext, tB, tOr, tAnd, tNot, tAsg, tDrop, tCall, rI0, rI, rU, List.cons_append, List.nil_append, List.append_nil, List.map_cons, List.map_nil, List.length_cons, List.length_nil, Nat.reduceAdd, Nat.reduceSub, List.replicate_succ, List.replicate_zero, List.getElem?_cons_zero, List.getElem?_cons_succ, Option.some.injEq, exists_eq_left, exists_eq_left', exists_eq_right, V.int.injEq, V.bl.injEq, V.str.injEq, V.ref.injEq, true_and, and_true, exists_and_left, if_true, if_false, gTup, gCons, gNil, gSub, gName, Mk.rSetD, List.set_cons_zero, List.set_cons_succ, Bool.false_eq_true, List.cons.injEq, Bool.not_true, Bool.not_false, eq_self, decide_true, decide_false, c3, star_is, nil_is, c1, decide_false]
        simpa [c1] using q0
/-- a text that may stand as a place -/
def placeB (z : Str) : Bool := decide (z = "") || nameB z || newB z
def spIsPlace : Sp := fun vs H Q _ => ∃ z : Str, vs = [.str z] ∧ z.length ≤ 1000 ∧ placeB z = true ∧ ∀ H', Gx H H' → Q (.bl true) H'
theorem C_is_place (T : Tops mg) (D : Def K mg "is_place" s_is_place ["value"]) (C_is_name : Cal P w K mg base "is_name" 1 ["value"] spIsName) (C_is_new : Cal P w K mg base "is_new" 1 ["value"] spIsNew) : Cal P w K mg base "is_place" 2 ["value"] spIsPlace := by
  refine Cal.of D sc_is_place (fun vs H Q E h => ?_) (fun f cdv A outer s H vs Q E hr h => ?_)
  · obtain ⟨i, rfl, _⟩ := h; rfl
  · obtain ⟨z, rfl, hl, hp, q⟩ := h
    have hu := hu_of hr
    have h0 := hr.units0
    refine ⟨_, (pss_one (ps_ret (pe_and (pe_callB (call_isA' (P := P) (w := w) (K := K) rfl rfl rfl) (by rfl) T.b_isinstance (by decide +kernel) (pa_cons (pv 0) (pa_cons (pe_bltn (v := .ty "str") (u := .type "str") (by rfl) T.b_str (by decide +kernel) rfl) pa_nil))) (pe_one (pe_or (pe_cmpR op_eq (pv 0) (pe_const T.c_ZERO (by rfl)) (nomark _)) (pe_or (pe_cal C_is_name hr (by decide) (by rfl) (pa_cons (pv 0) pa_nil)) (pe_one (pe_cal C_is_new hr (by decide) (by rfl) (pa_cons (pv 0) pa_nil))))))))), ?_⟩
    simp only [cxOf, Cx.nox, L2.start, tRet, tAndV, tOrV, tNotV, tCB, tCons, tNil, tVar, tC, tOp, tUn, tChain, tIfS, tTest, tSeq, tNext, tB, tOr, tAnd, tNot, tAsg, tDrop, tCall, rI0, rI, rU, List.cons_append, List.nil_append, List.append_nil, List.map_cons, List.map_nil, List.length_cons, List.length_nil, Nat.reduceAdd, Nat.reduceSub, List.replicate_succ, List.replicate_zero, List.getElem?_cons_zero, List.getElem?_cons_succ, Option.some.injEq, exists_eq_left, exists_eq_left', exists_eq_right, V.int.injEq, V.bl.injEq, V.str.injEq, V.ref.injEq, true_and, and_true, exists_and_left, if_true, if_false, gTup, gCons, gNil, gSub, gName, Mk.rSetD, List.set_cons_zero, List.set_cons_succ, Bool.false_eq_true, List.cons.injEq, Bool.not_true, Bool.not_false, eq_self, decide_true, decide_false, c3, N_is_place]
    refine isA (.str z) rfl ?_
    simp only [cxOf, Cx.nox, L2.start, tRet, tAndV, tOrV, tNotV, tCB, tCons, tNil, tVar, tC, tOp, tUn, tChain, tIfS, tTest, tSeq, tNext, tB, tOr, tAnd, tNot, tAsg, tDrop, tCall, rI0, rI, rU, List.cons_append, List.nil_append, List.append_nil, List.map_cons, List.map_nil, List.length_cons, List.length_nil, Nat.reduceAdd, Nat.reduceSub, List.replicate_succ, List.replicate_zero, List.getElem?_cons_zero, List.getElem?_cons_succ, Option.some.injEq, exists_eq_left, exists_eq_left', exists_eq_right, V.int.injEq, V.bl.injEq, V.str.injEq, V.ref.injEq, true_and, and_true, exists_and_left, if_true, if_false, gTup, gCons, gNil, gSub, gName, Mk.rSetD, List.set_cons_zero, List.set_cons_succ, Bool.false_eq_true, List.cons.injEq, Bool.not_true, Bool.not_false, eq_self, decide_true, decide_false, c3]
    refine ⟨rfl, ?_⟩
    by_cases e1 : z = ""
    · simp only [cxOf, Cx.nox, L2.start, tRet, tAndV, tOrV, tNotV, tCB, tCons, tNil, tVar, tC, tOp, tUn, tChain, tIfS, tTest, tSeq, tNext, tB, tOr, tAnd, tNot, tAsg, tDrop, tCall, rI0, rI, rU, List.cons_append, List.nil_append, List.append_nil, List.map_cons, List.map_nil, List.length_cons, List.length_nil, Nat.reduceAdd, Nat.reduceSub, List.replicate_succ, List.replicate_zero, List.getElem?_cons_zero, List.getElem?_cons_succ, Option.some.injEq, exists_eq_left, exists_eq_left', exists_eq_right, V.int.injEq, V.bl.injEq, V.str.injEq, V.ref.injEq, true_and, and_true, exists_and_left, if_true, if_false, gTup, gCons, gNil, gSub, gName, Mk.rSetD, List.set_cons_zero, List.set_cons_succ, Bool.false_eq_true, List.cons.injEq, Bool.not_true, Bool.not_false, eq_self, decide_true, decide_false, c3, e1, decide_true]
      exact q _ .refl
    · simp only [cxOf, Cx.nox, L2.start, tRet, tAndV, tOrV, tNotV, tCB, tCons, tNil, tVar, tC, tOp, tUn, tChain, tIfS, tTest, tSeq, tNext, tB, tOr, tAnd, tNot, tAsg, tDrop, tCall, rI0, rI, rU, List.cons_append, List.nil_append, List.append_nil, List.map_cons, List.map_nil, List.length_cons, List.length_nil, Nat.reduceAdd, Nat.reduceSub, List.replicate_succ, List.replicate_zero, List.getElem?_cons_zero, List.getElem?_cons_succ, Option.some.injEq, exists_eq_left, exists_eq_left', exists_eq_right, V.int.injEq, V.bl.injEq, V.str.injEq, V.ref.injEq, true_and, and_true, exists_and_left, if_true, if_false, gTup, gCons, gNil, gSub, gName, Mk.rSetD, List.set_cons_zero, List.set_cons_succ, Bool.false_eq_true, List.cons.injEq, Bool.not_true, Bool.not_false, eq_self, decide_true, decide_false, c3, e1, decide_false]
      refine ⟨z, rfl, hl, fun H1 g1 => ?_⟩
      by_cases e2 : nameB z = true
      · simp only [cxOf, Cx.nox, L2.start, tRet, tAndV, tOrV, tNotV, tCB, tCons, tNil, tVar, tC, tOp, tUn, tChain, tIfS, tTest, tSeq, tNext, tB, tOr, tAnd, tNot, tAsg, tDrop, tCall, rI0, rI, rU, List.cons_append, List.nil_append, List.append_nil, List.map_cons, List.map_nil, List.length_cons, List.length_nil, Nat.reduceAdd, Nat.reduceSub, List.replicate_succ, List.replicate_zero, List.getElem?_cons_zero, List.getElem?_cons_succ, Option.some.injEq, exists_eq_left, exists_eq_left', exists_eq_right, V.int.injEq, V.bl.injEq, V.str.injEq, V.ref.injEq, true_and, and_true, exists_and_left, if_true, if_false, gTup, gCons, gNil, gSub, gName, Mk.rSetD, List.set_cons_zero, List.set_cons_succ, Bool.false_eq_true, List.cons.injEq, Bool.not_true, Bool.not_false, eq_self, decide_true, decide_false, c3, e2]
        exact q _ g1
      · rw [Bool.not_eq_true] at e2
        simp only [cxOf, Cx.nox, L2.start, tRet, tAndV, tOrV, tNotV, tCB, tCons, tNil, tVar, tC, tOp, tUn, tChain, tIfS, tTest, tSeq, tNext, tB, tOr, tAnd, tNot, tAsg, tDrop, tCall, rI0, rI, rU, List.cons_append, List.nil_append, List.append_nil, List.map_cons, List.map_nil, List.length_cons, List.length_nil, Nat.reduceAdd, Nat.reduceSub, List.replicate_succ, List.replicate_zero, List.getElem?_cons_zero, List.getElem?_cons_succ, Option.some.injEq, exists_eq_left, exists_eq_left', exists_eq_right, V.int.injEq, V.bl.injEq, V.str.injEq, V.ref.injEq, true_and, and_true, exists_and_left, if_true, if_false, gTup, gCons, gNil, gSub, gName, Mk.rSetD, List.set_cons_zero, List.set_cons_succ, Bool.false_eq_true, List.cons.injEq, Bool.not_true, Bool.not_false, eq_self, decide_true, decide_false, c3, e2]
        refine ⟨z, rfl, hl, fun H2 g2 => ?_⟩
        rw [placeB, decide_eq_false e1, e2] at hp
        rw [show newB z = true by simpa using hp]
        exact q _ (g1.trans g2)
/-- a point -/
def GoodP : PK → Prop
  | .inl (.inr z) => z.length ≤ 1000 ∧ placeB z = true
  | .inr [.inr a, .inr b, .inl c] => a.length ≤ 1000 ∧ nameB a = true ∧ b.length ≤ 1000 ∧ placeB b = true ∧ -(10 ^ 60) < c ∧ c < 10 ^ 60
  | _ => False
theorem GoodP.cases {k : PK} (h : GoodP k) : (∃ z, k = .inl (.inr z) ∧ z.length ≤ 1000 ∧ placeB z = true) ∨
    ∃ a b c, k = .inr [.inr a, .inr b, .inl c] ∧ a.length ≤ 1000 ∧ nameB a = true ∧ b.length ≤ 1000 ∧ placeB b = true ∧ -(10 ^ 60) < c ∧ c < 10 ^ 60 := by
  unfold GoodP at h
  split at h
  · exact .inl ⟨_, rfl, h⟩
  · exact .inr ⟨_, _, _, rfl, h⟩
  · exact h.elim
def spIsPoint (K : PySem.W.Frag) : Sp := fun vs H Q _ => ∃ v k, vs = [v] ∧ KyV K H k v ∧ GoodP k ∧ ∀ H', Gx H H' → Q (.bl true) H'
theorem C_is_point (T : Tops mg) (D : Def K mg "is_point" s_is_point ["value"]) (C_is_integer : Cal P w K mg base "is_integer" 1 ["value"] spIsInt) (C_is_name : Cal P w K mg base "is_name" 1 ["value"] spIsName) (C_is_place : Cal P w K mg base "is_place" 2 ["value"] spIsPlace) : Cal P w K mg base "is_point" 3 ["value"] (spIsPoint K) := by
  refine Cal.of D sc_is_point (fun vs H Q E h => ?_) (fun f cdv A outer s H vs Q E hr h => ?_)
  · obtain ⟨i, k, rfl, _⟩ := h; rfl
  · obtain ⟨v, k, rfl, hk, hg, q⟩ := h
    have hu := hu_of hr
    have h0 := hr.units0
    refine ⟨_, (pss_cons (ps_if (pt_not (pt_val (pe_callB (call_isA' (P := P) (w := w) (K := K) rfl rfl rfl) (by rfl) T.b_isinstance (by decide +kernel) (pa_cons (pv 0) (pa_cons (pe_bltn (v := .ty "tuple") (u := .type "tuple") (by rfl) T.b_tuple (by decide +kernel) rfl) pa_nil))))) (pss_one (ps_ret (pe_cal C_is_place hr (by decide) (by rfl) (pa_cons (pv 0) pa_nil)))) pss_nil)
      (pss_one (ps_ret (pe_and (pe_cmpR op_eq (pe_callB call_len_seq (by rfl) T.b_len (by decide +kernel) (pa_cons (pv 0) pa_nil)) pe_int (nomark _)) (pe_and (pe_cal C_is_name hr (by decide) (by rfl) (pa_cons (pe_ix (ix_tup' (K := K) rfl) (pv 0) pe_int (fun _ _ => rfl)) pa_nil)) (pe_and (pe_cal C_is_place hr (by decide) (by rfl) (pa_cons (pe_ix (ix_tup' (K := K) rfl) (pv 0) pe_int (fun _ _ => rfl)) pa_nil)) (pe_one (pe_cal C_is_integer hr (by decide) (by rfl) (pa_cons (pe_ix (ix_tup' (K := K) rfl) (pv 0) pe_int (fun _ _ => rfl)) pa_nil))))))))), ?_⟩
    simp only [cxOf, Cx.nox, L2.start, tRet, tAndV, tOrV, tNotV, tCB, tCons, tNil, tVar, tC, tOp, tUn, tChain, tIfS, tTest, tSeq, tNext, tB, tOr, tAnd, tNot, tAsg, tDrop, tCall, rI0, rI, rU, List.cons_append, List.nil_append, List.append_nil, List.map_cons, List.map_nil, List.length_cons, List.length_nil, Nat.reduceAdd, Nat.reduceSub, List.replicate_succ, List.replicate_zero, List.getElem?_cons_zero, List.getElem?_cons_succ, Option.some.injEq, exists_eq_left, exists_eq_left', exists_eq_right, V.int.injEq, V.bl.injEq, V.str.injEq, V.ref.injEq, true_and, and_true, exists_and_left, if_true, if_false, gTup, gCons, gNil, gSub, gName, Mk.rSetD, List.set_cons_zero, List.set_cons_succ, Bool.false_eq_true, List.cons.injEq, Bool.not_true, Bool.not_false, eq_self, decide_true, decide_false, c3, N_is_point]
    rcases hg.cases with ⟨z, rfl, h1, h2⟩ | ⟨a, b, c, rfl, h1, h2, h3, h4, h5, h6⟩
    · obtain rfl : v = .str z := hk
      refine isA (.str z) rfl ?_
      simp only [cxOf, Cx.nox, L2.start, tRet, tAndV, tOrV, tNotV, tCB, tCons, tNil, tVar, tC, tOp, tUn, tChain, tIfS, tTest, tSeq, tNext, tB, tOr, tAnd, tNot, tAsg, tDrop, tCall, rI0, rI, rU, List.cons_append, List.nil_append, List.append_nil, List.map_cons, List.map_nil, List.length_cons, List.length_nil, Nat.reduceAdd, Nat.reduceSub, List.replicate_succ, List.replicate_zero, List.getElem?_cons_zero, List.getElem?_cons_succ, Option.some.injEq, exists_eq_left, exists_eq_left', exists_eq_right, V.int.injEq, V.bl.injEq, V.str.injEq, V.ref.injEq, true_and, and_true, exists_and_left, if_true, if_false, gTup, gCons, gNil, gSub, gName, Mk.rSetD, List.set_cons_zero, List.set_cons_succ, Bool.false_eq_true, List.cons.injEq, Bool.not_true, Bool.not_false, eq_self, decide_true, decide_false, c3]
      exact ⟨z, rfl, h1, h2, q⟩
    · obtain ⟨p, rfl, hS⟩ := hk
      refine isA (.tup hS) rfl ?_
      simp only [cxOf, Cx.nox, L2.start, tRet, tAndV, tOrV, tNotV, tCB, tCons, tNil, tVar, tC, tOp, tUn, tChain, tIfS, tTest, tSeq, tNext, tB, tOr, tAnd, tNot, tAsg, tDrop, tCall, rI0, rI, rU, List.cons_append, List.nil_append, List.append_nil, List.map_cons, List.map_nil, List.length_cons, List.length_nil, Nat.reduceAdd, Nat.reduceSub, List.replicate_succ, List.replicate_zero, List.getElem?_cons_zero, List.getElem?_cons_succ, Option.some.injEq, exists_eq_left, exists_eq_left', exists_eq_right, V.int.injEq, V.bl.injEq, V.str.injEq, V.ref.injEq, true_and, and_true, exists_and_left, if_true, if_false, gTup, gCons, gNil, gSub, gName, Mk.rSetD, List.set_cons_zero, List.set_cons_succ, Bool.false_eq_true, List.cons.injEq, Bool.not_true, Bool.not_false, eq_self, decide_true, decide_false, c3]
      refine ⟨_, .inr hS, rfl, ?_⟩
      simp only [cxOf, Cx.nox, L2.start, tRet, tAndV, tOrV, tNotV, tCB, tCons, tNil, tVar, tC, tOp, tUn, tChain, tIfS, tTest, tSeq, tNext, tB, tOr, tAnd, tNot, tAsg, tDrop, tCall, rI0, rI, rU, List.cons_append, List.nil_append, List.append_nil, List.map_cons, List.map_nil, List.length_cons, List.length_nil, Nat.reduceAdd, Nat.reduceSub, List.replicate_succ, List.replicate_zero, List.getElem?_cons_zero, List.getElem?_cons_succ, Option.some.injEq, exists_eq_left, exists_eq_left', exists_eq_right, V.int.injEq, V.bl.injEq, V.str.injEq, V.ref.injEq, true_and, and_true, exists_and_left, if_true, if_false, gTup, gCons, gNil, gSub, gName, Mk.rSetD, List.set_cons_zero, List.set_cons_succ, Bool.false_eq_true, List.cons.injEq, Bool.not_true, Bool.not_false, eq_self, decide_true, decide_false, c3]
      refine ⟨p, _, 0, _, rfl, rfl, hS, atI_nat (j := 0) rfl, a, rfl, h1, fun H1 g1 => ?_⟩
      simp only [cxOf, Cx.nox, L2.start, tRet, tAndV, tOrV, tNotV, tCB, tCons, tNil, tVar, tC, tOp, tUn, tChain, tIfS, tTest, tSeq, tNext, tB, tOr, tAnd, tNot, tAsg, tDrop, tCall, rI0, rI, rU, List.cons_append, List.nil_append, List.append_nil, List.map_cons, List.map_nil, List.length_cons, List.length_nil, Nat.reduceAdd, Nat.reduceSub, List.replicate_succ, List.replicate_zero, List.getElem?_cons_zero, List.getElem?_cons_succ, Option.some.injEq, exists_eq_left, exists_eq_left', exists_eq_right, V.int.injEq, V.bl.injEq, V.str.injEq, V.ref.injEq, true_and, and_true, exists_and_left, if_true, if_false, gTup, gCons, gNil, gSub, gName, Mk.rSetD, List.set_cons_zero, List.set_cons_succ, Bool.false_eq_true, List.cons.injEq, Bool.not_true, Bool.not_false, eq_self, decide_true, decide_false, c3, h2]
      refine ⟨p, _, 1, _, rfl, rfl, g1.seqT hS, atI_nat (j := 1) rfl, b, rfl, h3, h4, fun H2 g2 => ?_⟩
      simp only [cxOf, Cx.nox, L2.start, tRet, tAndV, tOrV, tNotV, tCB, tCons, tNil, tVar, tC, tOp, tUn, tChain, tIfS, tTest, tSeq, tNext, tB, tOr, tAnd, tNot, tAsg, tDrop, tCall, rI0, rI, rU, List.cons_append, List.nil_append, List.append_nil, List.map_cons, List.map_nil, List.length_cons, List.length_nil, Nat.reduceAdd, Nat.reduceSub, List.replicate_succ, List.replicate_zero, List.getElem?_cons_zero, List.getElem?_cons_succ, Option.some.injEq, exists_eq_left, exists_eq_left', exists_eq_right, V.int.injEq, V.bl.injEq, V.str.injEq, V.ref.injEq, true_and, and_true, exists_and_left, if_true, if_false, gTup, gCons, gNil, gSub, gName, Mk.rSetD, List.set_cons_zero, List.set_cons_succ, Bool.false_eq_true, List.cons.injEq, Bool.not_true, Bool.not_false, eq_self, decide_true, decide_false, c3]
      refine ⟨p, _, 2, _, rfl, rfl, g2.seqT (g1.seqT hS), atI_nat (j := 2) rfl, c, rfl, h5, h6, q _ (g1.trans g2)⟩
/-- a difference: two points and a number -/
abbrev Dif := PK × PK × Int
def DifV (K : PySem.W.Frag) (H : Hp) (d : Dif) (v : V) : Prop := ∃ a x y, v = .ref a ∧ SqT K H a [x, y, .int d.2.2] ∧ KyV K H d.1 x ∧ KyV K H d.2.1 y
def GoodD (d : Dif) : Prop := GoodP d.1 ∧ GoodP d.2.1 ∧ -(10 ^ 60) < d.2.2 ∧ d.2.2 < 10 ^ 60
theorem DifV.keep {H H' : Hp} {d : Dif} {v : V} (h : DifV K H d v) (t : Tk K H H') : DifV K H' d v :=
  let ⟨a, x, y, e, s, p, q⟩ := h
  ⟨a, x, y, e, t _ _ s, p.keep t, q.keep t⟩
def spIsDif (K : PySem.W.Frag) : Sp := fun vs H Q _ => ∃ v d, vs = [v] ∧ DifV K H d v ∧ GoodD d ∧ ∀ H', Gx H H' → Q (.bl true) H'
theorem C_is_difference (T : Tops mg) (D : Def K mg "is_difference" s_is_difference ["value"]) (C_is_integer : Cal P w K mg base "is_integer" 1 ["value"] spIsInt) (C_is_point : Cal P w K mg base "is_point" 3 ["value"] (spIsPoint K)) : Cal P w K mg base "is_difference" 4 ["value"] (spIsDif K) := by
  refine Cal.of D sc_is_difference (fun vs H Q E h => ?_) (fun f cdv A outer s H vs Q E hr h => ?_)
  · obtain ⟨i, k, rfl, _⟩ := h; rfl
  · obtain ⟨v, d, rfl, ⟨p, x, y, rfl, hS, hx, hy⟩, ⟨g1, g2, g3, g4⟩, q⟩ := h
    have hu := hu_of hr
    have h0 := hr.units0
    refine ⟨_, (pss_cons (ps_if (PW.pt (pw_or (pt_not (pt_val (pe_callB (call_isA' (P := P) (w := w) (K := K) rfl rfl rfl) (by rfl) T.b_isinstance (by decide +kernel) (pa_cons (pv 0) (pa_cons (pe_bltn (v := .ty "tuple") (u := .type "tuple") (by rfl) T.b_tuple (by decide +kernel) rfl) pa_nil))))) (pw_or1 (pt_cmpR op_ne (pe_callB call_len_seq (by rfl) T.b_len (by decide +kernel) (pa_cons (pv 0) pa_nil)) pe_int (nomark _))))) (pss_one (ps_ret pe_bl)) pss_nil)
      (pss_one (ps_ret (pe_and (pe_cal C_is_point hr (by decide) (by rfl) (pa_cons (pe_ix (ix_tup' (K := K) rfl) (pv 0) pe_int (fun _ _ => rfl)) pa_nil)) (pe_and (pe_cal C_is_point hr (by decide) (by rfl) (pa_cons (pe_ix (ix_tup' (K := K) rfl) (pv 0) pe_int (fun _ _ => rfl)) pa_nil)) (pe_one (pe_cal C_is_integer hr (by decide) (by rfl) (pa_cons (pe_ix (ix_tup' (K := K) rfl) (pv 0) pe_int (fun _ _ => rfl)) pa_nil)))))))), ?_⟩
    simp only [cxOf, Cx.nox, L2.start, tRet, tAndV, tOrV, tNotV, tCB, tCons, tNil, tVar, tC, tOp, tUn, tChain, tIfS, tTest, tSeq, tNext, tB, tOr, tAnd, tNot, tAsg, tDrop, tCall, rI0, rI, rU, List.cons_append, List.nil_append, List.append_nil, List.map_cons, List.map_nil, List.length_cons, List.length_nil, Nat.reduceAdd, Nat.reduceSub, List.replicate_succ, List.replicate_zero, List.getElem?_cons_zero, List.getElem?_cons_succ, Option.some.injEq, exists_eq_left, exists_eq_left', exists_eq_right, V.int.injEq, V.bl.injEq, V.str.injEq, V.ref.injEq, true_and, and_true, exists_and_left, if_true, if_false, gTup, gCons, gNil, gSub, gName, Mk.rSetD, List.set_cons_zero, List.set_cons_succ, Bool.false_eq_true, List.cons.injEq, Bool.not_true, Bool.not_false, eq_self, decide_true, decide_false, c3, N_is_difference]
    refine isA (.tup hS) rfl ?_
    simp only [cxOf, Cx.nox, L2.start, tRet, tAndV, tOrV, tNotV, tCB, tCons, tNil, tVar, tC, tOp, tUn, tChain, tIfS, tTest, tSeq, tNext, tB, tOr, tAnd, tNot, tAsg, tDrop, tCall, rI0, rI, rU, List.cons_append, List.nil_append, List.append_nil, List.map_cons, List.map_nil, List.length_cons, List.length_nil, Nat.reduceAdd, Nat.reduceSub, List.replicate_succ, List.replicate_zero, List.getElem?_cons_zero, List.getElem?_cons_succ, Option.some.injEq, exists_eq_left, exists_eq_left', exists_eq_right, V.int.injEq, V.bl.injEq, V.str.injEq, V.ref.injEq, true_and, and_true, exists_and_left, if_true, if_false, gTup, gCons, gNil, gSub, gName, Mk.rSetD, List.set_cons_zero, List.set_cons_succ, Bool.false_eq_true, List.cons.injEq, Bool.not_true, Bool.not_false, eq_self, decide_true, decide_false, c3]
    refine ⟨_, .inr hS, rfl, ?_⟩
    simp only [cxOf, Cx.nox, L2.start, tRet, tAndV, tOrV, tNotV, tCB, tCons, tNil, tVar, tC, tOp, tUn, tChain, tIfS, tTest, tSeq, tNext, tB, tOr, tAnd, tNot, tAsg, tDrop, tCall, rI0, rI, rU, List.cons_append, List.nil_append, List.append_nil, List.map_cons, List.map_nil, List.length_cons, List.length_nil, Nat.reduceAdd, Nat.reduceSub, List.replicate_succ, List.replicate_zero, List.getElem?_cons_zero, List.getElem?_cons_succ, Option.some.injEq, exists_eq_left, exists_eq_left', exists_eq_right, V.int.injEq, V.bl.injEq, V.str.injEq, V.ref.injEq, true_and, and_true, exists_and_left, if_true, if_false, gTup, gCons, gNil, gSub, gName, Mk.rSetD, List.set_cons_zero, List.set_cons_succ, Bool.false_eq_true, List.cons.injEq, Bool.not_true, Bool.not_false, eq_self, decide_true, decide_false, c3]
    refine ⟨p, _, 0, _, rfl, rfl, hS, atI_nat (j := 0) rfl, x, _, rfl, hx, g1, fun H1 e1 => ?_⟩
    simp only [cxOf, Cx.nox, L2.start, tRet, tAndV, tOrV, tNotV, tCB, tCons, tNil, tVar, tC, tOp, tUn, tChain, tIfS, tTest, tSeq, tNext, tB, tOr, tAnd, tNot, tAsg, tDrop, tCall, rI0, rI, rU, List.cons_append, List.nil_append, List.append_nil, List.map_cons, List.map_nil, List.length_cons, List.length_nil, Nat.reduceAdd, Nat.reduceSub, List.replicate_succ, List.replicate_zero, List.getElem?_cons_zero, List.getElem?_cons_succ, Option.some.injEq, exists_eq_left, exists_eq_left', exists_eq_right, V.int.injEq, V.bl.injEq, V.str.injEq, V.ref.injEq, true_and, and_true, exists_and_left, if_true, if_false, gTup, gCons, gNil, gSub, gName, Mk.rSetD, List.set_cons_zero, List.set_cons_succ, Bool.false_eq_true, List.cons.injEq, Bool.not_true, Bool.not_false, eq_self, decide_true, decide_false, c3]
    refine ⟨p, _, 1, _, rfl, rfl, e1.seqT hS, atI_nat (j := 1) rfl, y, _, rfl, hy.keep e1.tk, g2, fun H2 e2 => ?_⟩
    simp only [cxOf, Cx.nox, L2.start, tRet, tAndV, tOrV, tNotV, tCB, tCons, tNil, tVar, tC, tOp, tUn, tChain, tIfS, tTest, tSeq, tNext, tB, tOr, tAnd, tNot, tAsg, tDrop, tCall, rI0, rI, rU, List.cons_append, List.nil_append, List.append_nil, List.map_cons, List.map_nil, List.length_cons, List.length_nil, Nat.reduceAdd, Nat.reduceSub, List.replicate_succ, List.replicate_zero, List.getElem?_cons_zero, List.getElem?_cons_succ, Option.some.injEq, exists_eq_left, exists_eq_left', exists_eq_right, V.int.injEq, V.bl.injEq, V.str.injEq, V.ref.injEq, true_and, and_true, exists_and_left, if_true, if_false, gTup, gCons, gNil, gSub, gName, Mk.rSetD, List.set_cons_zero, List.set_cons_succ, Bool.false_eq_true, List.cons.injEq, Bool.not_true, Bool.not_false, eq_self, decide_true, decide_false, c3]
    refine ⟨p, _, 2, _, rfl, rfl, e2.seqT (e1.seqT hS), atI_nat (j := 2) rfl, _, rfl, g3, g4, q _ (e1.trans e2)⟩
/-- a tuple of differences -/
def DsV (K : PySem.W.Frag) (H : Hp) (ds : List Dif) (v : V) : Prop := ∃ a vs, v = .ref a ∧ SqT K H a vs ∧ Paired (DifV K H) ds vs
theorem DsV.keep {H H' : Hp} {ds : List Dif} {v : V} (h : DsV K H ds v) (t : Tk K H H') : DsV K H' ds v :=
  let ⟨a, vs, e, s, p⟩ := h
  ⟨a, vs, e, t _ _ s, Paired.mapP p fun _ _ h => h.keep t⟩
def GoodDs (ds : List Dif) : Prop := ds.length ≤ 60 ∧ ∀ d ∈ ds, GoodD d
def spReqD (K : PySem.W.Frag) : Sp := fun vs H Q _ => ∃ v ds, vs = [v] ∧ DsV K H ds v ∧ GoodDs ds ∧ ∀ H', Gx H H' → Q .non H'
theorem C_require_differences (T : Tops mg) (D : Def K mg "require_differences" s_require_differences ["value"]) (C_is_difference : Cal P w K mg base "is_difference" 4 ["value"] (spIsDif K)) : Cal P w K mg base "require_differences" 5 ["value"] (spReqD K) := by
  refine Cal.of D sc_require_differences (fun vs H Q E h => ?_) (fun f cdv A outer s H vs Q E hr h => ?_)
  · obtain ⟨i, k, rfl, _⟩ := h; rfl
  · obtain ⟨v, ds, rfl, ⟨p, vs, rfl, hS, hv⟩, ⟨hl, hg⟩, q⟩ := h
    have hu := hu_of hr
    have h0 := hr.units0
    refine ⟨_, (pss_one (ps_if (PW.pt (pw_or (pt_not (pt_val (pe_callB (call_isA' (P := P) (w := w) (K := K) rfl rfl rfl) (by rfl) T.b_isinstance (by decide +kernel) (pa_cons (pv 0) (pa_cons (pe_bltn (v := .ty "tuple") (u := .type "tuple") (by rfl) T.b_tuple (by decide +kernel) rfl) pa_nil))))) (pw_or (pt_cmpR op_gt (pe_callB call_len_seq (by rfl) T.b_len (by decide +kernel) (pa_cons (pv 0) pa_nil)) (pe_const T.c_MAX_DIFFERENCES (by rfl)) (nomark _)) (pw_or1 (pt_not (pt_val (pe_callB (cr_all rfl) (by rfl) T.b_all (by decide +kernel) (pa_cons (pe_lc (own := [("row", 1)]) rfl sc_require_differences.nd (pi_tup (pv 0)) (blkOk_by (own := [("row", 1)]) (N := N_require_differences) (sc := defScope s_require_differences) (by decide +kernel)) (fun _ _ _ _ _ => (pg_name (i := 1) sc_require_differences.nd rfl (Or.inl rfl))) (fun _ _ _ _ _ => pts_nil) (fun _ _ _ _ _ => (pe_cal C_is_difference hr (by decide) (by rfl) (pa_cons (pv 1) pa_nil)))) pa_nil)))))))) (pss_one ps_never) pss_nil)), ?_⟩
    simp only [cxOf, Cx.nox, L2.start, tRet, tAndV, tOrV, tNotV, tCB, tCons, tNil, tVar, tC, tOp, tUn, tChain, tIfS, tTest, tSeq, tNext, tB, tOr, tAnd, tNot, tAsg, tDrop, tCall, rI0, rI, rU, List.cons_append, List.nil_append, List.append_nil, List.map_cons, List.map_nil, List.length_cons, List.length_nil, Nat.reduceAdd, Nat.reduceSub, List.replicate_succ, List.replicate_zero, List.getElem?_cons_zero, List.getElem?_cons_succ, Option.some.injEq, exists_eq_left, exists_eq_left', exists_eq_right, V.int.injEq, V.bl.injEq, V.str.injEq, V.ref.injEq, true_and, and_true, exists_and_left, if_true, if_false, gTup, gCons, gNil, gSub, gName, Mk.rSetD, List.set_cons_zero, List.set_cons_succ, Bool.false_eq_true, List.cons.injEq, Bool.not_true, Bool.not_false, eq_self, decide_true, decide_false, c3, N_require_differences]
    refine isA (.tup hS) rfl ?_
    simp only [cxOf, Cx.nox, L2.start, tRet, tAndV, tOrV, tNotV, tCB, tCons, tNil, tVar, tC, tOp, tUn, tChain, tIfS, tTest, tSeq, tNext, tB, tOr, tAnd, tNot, tAsg, tDrop, tCall, rI0, rI, rU, List.cons_append, List.nil_append, List.append_nil, List.map_cons, List.map_nil, List.length_cons, List.length_nil, Nat.reduceAdd, Nat.reduceSub, List.replicate_succ, List.replicate_zero, List.getElem?_cons_zero, List.getElem?_cons_succ, Option.some.injEq, exists_eq_left, exists_eq_left', exists_eq_right, V.int.injEq, V.bl.injEq, V.str.injEq, V.ref.injEq, true_and, and_true, exists_and_left, if_true, if_false, gTup, gCons, gNil, gSub, gName, Mk.rSetD, List.set_cons_zero, List.set_cons_succ, Bool.false_eq_true, List.cons.injEq, Bool.not_true, Bool.not_false, eq_self, decide_true, decide_false, c3]
    have hl' : vs.length ≤ 60 := by rw [← Paired.length hv]; exact hl
    have b1 : ¬ (60 : Int) < vs.length := by omega
    refine ⟨vs, .inr hS, ?_⟩
    simp only [cxOf, Cx.nox, L2.start, tRet, tAndV, tOrV, tNotV, tCB, tCons, tNil, tVar, tC, tOp, tUn, tChain, tIfS, tTest, tSeq, tNext, tB, tOr, tAnd, tNot, tAsg, tDrop, tCall, rI0, rI, rU, List.cons_append, List.nil_append, List.append_nil, List.map_cons, List.map_nil, List.length_cons, List.length_nil, Nat.reduceAdd, Nat.reduceSub, List.replicate_succ, List.replicate_zero, List.getElem?_cons_zero, List.getElem?_cons_succ, Option.some.injEq, exists_eq_left, exists_eq_left', exists_eq_right, V.int.injEq, V.bl.injEq, V.str.injEq, V.ref.injEq, true_and, and_true, exists_and_left, if_true, if_false, gTup, gCons, gNil, gSub, gName, Mk.rSetD, List.set_cons_zero, List.set_cons_succ, Bool.false_eq_true, List.cons.injEq, Bool.not_true, Bool.not_false, eq_self, decide_true, decide_false, c3, b1]
    refine ⟨_, rfl, p, rfl, ⟨_, hS⟩, fun D hD => lc_it walk_tup (PvG H D (AMap vs fun _ => V.bl true)) (PvG.ini hD .ini) (fun _ _ _ h => h.1.seqT hS) (fun i x H1 H2 hi hP hY => ?_) (fun H1 hP => ?_)⟩
    · obtain ⟨rfl, hx⟩ := hY
      obtain ⟨g, ys, e, a⟩ := hP
      obtain ⟨d, hd, hdx⟩ := pair_at hv hx
      simp only [cxOf, Cx.nox, L2.start, tRet, tAndV, tOrV, tNotV, tCB, tCons, tNil, tVar, tC, tOp, tUn, tChain, tIfS, tTest, tSeq, tNext, tB, tOr, tAnd, tNot, tAsg, tDrop, tCall, rI0, rI, rU, List.cons_append, List.nil_append, List.append_nil, List.map_cons, List.map_nil, List.length_cons, List.length_nil, Nat.reduceAdd, Nat.reduceSub, List.replicate_succ, List.replicate_zero, List.getElem?_cons_zero, List.getElem?_cons_succ, Option.some.injEq, exists_eq_left, exists_eq_left', exists_eq_right, V.int.injEq, V.bl.injEq, V.str.injEq, V.ref.injEq, true_and, and_true, exists_and_left, if_true, if_false, gTup, gCons, gNil, gSub, gName, Mk.rSetD, List.set_cons_zero, List.set_cons_succ, Bool.false_eq_true, List.cons.injEq, Bool.not_true, Bool.not_false, eq_self, decide_true, decide_false, c3, gName, tYes]
      exact ⟨rfl, _, rfl, _, _, rfl, hdx.keep g.tk, hg d (List.mem_of_getElem? hd), fun H3 g3 => PvG.put (g.trans g3) hD (g3 _ _ e) (line_lt (a.len hl')) (a.put hx)⟩
    · obtain ⟨g, ys, e, a⟩ := hP
      refine ⟨D, vs.map fun _ => true, rfl, .inl (.inl (by rw [e, a.fin, List.map_map]; rfl)), ?_⟩
      rw [all_bl, show (vs.all fun _ => true) = true by simp]
      simp only [cxOf, Cx.nox, L2.start, tRet, tAndV, tOrV, tNotV, tCB, tCons, tNil, tVar, tC, tOp, tUn, tChain, tIfS, tTest, tSeq, tNext, tB, tOr, tAnd, tNot, tAsg, tDrop, tCall, rI0, rI, rU, List.cons_append, List.nil_append, List.append_nil, List.map_cons, List.map_nil, List.length_cons, List.length_nil, Nat.reduceAdd, Nat.reduceSub, List.replicate_succ, List.replicate_zero, List.getElem?_cons_zero, List.getElem?_cons_succ, Option.some.injEq, exists_eq_left, exists_eq_left', exists_eq_right, V.int.injEq, V.bl.injEq, V.str.injEq, V.ref.injEq, true_and, and_true, exists_and_left, if_true, if_false, gTup, gCons, gNil, gSub, gName, Mk.rSetD, List.set_cons_zero, List.set_cons_succ, Bool.false_eq_true, List.cons.injEq, Bool.not_true, Bool.not_false, eq_self, decide_true, decide_false, c3]
      exact q _ g
def spReqP (K : PySem.W.Frag) : Sp := fun vs H Q _ => ∃ v k, vs = [v] ∧ KyV K H k v ∧ GoodP k ∧ ∀ H', Gx H H' → Q .non H'
theorem C_require_point (T : Tops mg) (D : Def K mg "require_point" s_require_point ["value"]) (C_is_point : Cal P w K mg base "is_point" 3 ["value"] (spIsPoint K)) : Cal P w K mg base "require_point" 4 ["value"] (spReqP K) := by
  refine Cal.of D sc_require_point (fun vs H Q E h => ?_) (fun f cdv A outer s H vs Q E hr h => ?_)
  · obtain ⟨i, k, rfl, _⟩ := h; rfl
  · obtain ⟨v, k, rfl, hk, hg, q⟩ := h
    have hu := hu_of hr
    have h0 := hr.units0
    refine ⟨_, (pss_one (ps_if (pt_not (pt_val (pe_cal C_is_point hr (by decide) (by rfl) (pa_cons (pv 0) pa_nil)))) (pss_one ps_never) pss_nil)), ?_⟩
    simp only [cxOf, Cx.nox, L2.start, tRet, tAndV, tOrV, tNotV, tCB, tCons, tNil, tVar, tC, tOp, tUn, tChain, tIfS, tTest, tSeq, tNext, tB, tOr, tAnd, tNot, tAsg, tDrop, tCall, rI0, rI, rU, List.cons_append, List.nil_append, List.append_nil, List.map_cons, List.map_nil, List.length_cons, List.length_nil, Nat.reduceAdd, Nat.reduceSub, List.replicate_succ, List.replicate_zero, List.getElem?_cons_zero, List.getElem?_cons_succ, Option.some.injEq, exists_eq_left, exists_eq_left', exists_eq_right, V.int.injEq, V.bl.injEq, V.str.injEq, V.ref.injEq, true_and, and_true, exists_and_left, if_true, if_false, gTup, gCons, gNil, gSub, gName, Mk.rSetD, List.set_cons_zero, List.set_cons_succ, Bool.false_eq_true, List.cons.injEq, Bool.not_true, Bool.not_false, eq_self, decide_true, decide_false, c3, N_require_point]
    exact ⟨v, k, rfl, hk, hg, fun H1 g => by simp only [cxOf, Cx.nox, L2.start, tRet, tAndV, tOrV, tNotV, tCB, tCons, tNil, tVar, tC, tOp, tUn, tChain, tIfS, tTest, tSeq, tNext, tB, tOr, tAnd, tNot, tAsg, tDrop, tCall, rI0, rI, rU, List.cons_append, List.nil_append, List.append_nil, List.map_cons, List.map_nil, List.length_cons, List.length_nil, Nat.reduceAdd, Nat.reduceSub, List.replicate_succ, List.replicate_zero, List.getElem?_cons_zero, List.getElem?_cons_succ, Option.some.injEq, exists_eq_left, exists_eq_left', exists_eq_right, V.int.injEq, V.bl.injEq, V.str.injEq, V.ref.injEq, true_and, and_true, exists_and_left, if_true, if_false, gTup, gCons, gNil, gSub, gName, Mk.rSetD, List.set_cons_zero, List.set_cons_succ, Bool.false_eq_true, List.cons.injEq, Bool.not_true, Bool.not_false, eq_self, decide_true, decide_false, c3]; exact q _ g⟩
end
end Mk


set_option Elab.async false
set_option linter.all false
set_option maxRecDepth 100000
set_option maxHeartbeats 400000
/-! dicts of points: keys, comprehensions, sorted points -/
namespace Mk
open PySem PySem.Spec PyProof.Rows L2
/-! ### the keys of a dict that is stored to -/
section
variable {kvs : List (PK × V)} {k x : PK} {v : V}
theorem putK_has (h : k ∈ kvs.map (·.1)) : (putK kvs k v).map (·.1) = kvs.map (·.1) := by
  have e : (kvs.any fun kv => decide (kv.1 = k)) = true := by
    obtain ⟨p, hp, rfl⟩ := List.mem_map.mp h
    exact List.any_eq_true.mpr ⟨p, hp, by simp⟩
  rw [putK, if_pos e, List.map_map]
  refine List.map_congr_left fun p _ => ?_
  by_cases q : p.1 = k <;> simp [q]
theorem putK_new (h : k ∉ kvs.map (·.1)) : putK kvs k v = kvs ++ [(k, v)] := by
  have e : ¬ (kvs.any fun kv => decide (kv.1 = k)) = true := fun z => by
    obtain ⟨p, hp, q⟩ := List.any_eq_true.mp z
    exact h (List.mem_map.mpr ⟨p, hp, by simpa using q⟩)
  rw [putK, if_neg e]
theorem putK_mem : x ∈ (putK kvs k v).map (·.1) ↔ x = k ∨ x ∈ kvs.map (·.1) := by
  by_cases h : k ∈ kvs.map (·.1)
  · rw [putK_has h]
    exact ⟨.inr, fun z => z.elim (fun e => e ▸ h) id⟩
  · rw [putK_new h, List.map_append, List.mem_append, List.map_singleton, List.mem_singleton]
    exact Or.comm
theorem putK_nodup (h : (kvs.map (·.1)).Nodup) : ((putK kvs k v).map (·.1)).Nodup := by
  by_cases e : k ∈ kvs.map (·.1)
  · rw [putK_has e]; exact h
  · rw [putK_new e, List.map_append, List.map_singleton, List.nodup_append]
    exact ⟨h, by simp, fun a ha b hb => by rw [List.mem_singleton] at hb; subst hb; exact fun z => e (z ▸ ha)⟩
theorem putK_len : (putK kvs k v).length ≤ kvs.length + 1 := by
  by_cases e : k ∈ kvs.map (·.1)
  · have := congrArg List.length (putK_has (v := v) e)
    rw [List.length_map, List.length_map] at this
    omega
  · rw [putK_new e, List.length_append, List.length_singleton]; omega
end
section
variable {P : Program} {w : World} {K : PySem.W.Frag} {H H' H1 : Hp} {d : Addr}
theorem Gx.lock {u z : HO} (hd : H d = some u) (g : Gx (upd H d z) H') : Gx H (upd H' d u) := fun a o e => by
  by_cases q : a = d
  · subst q; rw [upd_same]; exact hd ▸ e
  · rw [upd_ne q]; exact g a o (by rw [upd_ne q]; exact e)
/-- a new list of points -/
def PLV (K : PySem.W.Frag) (H : Hp) (p : Addr) (ks : List PK) : Prop := ∃ xs, H p = some (.lst xs) ∧ Paired (KyV K H) ks xs
theorem PLV.keep {p : Addr} {ks : List PK} (h : PLV K H p ks) (e : H' p = H p) (t : Tk K H H') : PLV K H' p ks :=
  let ⟨xs, a, b⟩ := h
  ⟨xs, by rw [e]; exact a, Paired.mapP b fun _ _ q => q.keep t⟩
theorem PLV.gx {p : Addr} {ks : List PK} (h : PLV K H p ks) (g : Gx H H') : PLV K H' p ks :=
  let ⟨xs, a, b⟩ := h
  ⟨xs, g _ _ a, Paired.mapP b fun _ _ q => q.keep g.tk⟩
theorem pair_snoc {α β : Type} {R : α → β → Prop} {as : List α} {bs : List β} {a : α} {b : β} (h : Paired R as bs) (r : R a b) : Paired R (as ++ [a]) (bs ++ [b]) := Paired.snoc h r
/-- [x for x in d if isinstance(x, T)] -/
theorem filt_dic {T : String} (p : PK → Bool) (hp : ∀ k v H, KyV K H k v → ∃ t, TyA P w K H v t ∧ kitB t T = some (p k)) {σ : L2.St} {Q : VK} {kvs : List (PK × V)} {i j : Nat} (hij : i ≠ j) (hσ : σ[i]? = some (some (.ref d))) (hj : j < σ.length)
    (hd : DicW P w K H d kvs) (hl : kvs.length ≤ 1000) (q : ∀ H' r, Gx H H' → H r = none → PLV K H' r ((kvs.map (·.1)).filter p) → Q (.ref r) H') :
    tLockE (tLc (iDic P w K (tVar i)) (gName j) (tB (tCB (rIsA P w K) (tCons (tVar j) (tCons (tC (V.ty T)) tNil)))) (tVar j) [j]) σ H Q := by
  obtain ⟨xs, hx, pe⟩ := id hd
  refine ⟨d, _, hx, True.intro, fun od => ?_⟩
  refine ⟨_, hσ, d, od, xs, kvs, rfl, upd_same, pe.keep (Tk.mut hd.mut), fun D hD => ?_⟩
  have hne : D ≠ d := fun z => by rw [z, upd_same] at hD; cases hD
  refine lc_it walk_dic (PvG (upd H d (.frz od (.ext (rawD P w d xs)))) D fun n ys H' => Paired (KyV K H') (((kvs.take n).map (·.1)).filter p) ys) (PvG.ini hD (by rw [List.take_zero]; exact .nil))
    (fun _ H2 _ h => ⟨h.1 _ _ upd_same, (pe.keep (Tk.mut hd.mut)).keep h.1.tk⟩) (fun n x H1 H2 hn hP hY => ?_) (fun H1 hP => ?_)
  · obtain ⟨rfl, k, v, hk, ky⟩ := hY
    obtain ⟨g, ys, e, a⟩ := hP
    refine ⟨?_, ?_⟩
    · show wipe ((wipe σ [j]).set j (some x)) [j] = wipe σ [j]
      show ((σ.set j none).set j (some x)).set j none = σ.set j none
      rw [List.set_set, List.set_set]
    · obtain ⟨t, ht, kt⟩ := hp k x _ ky
      have gj : ((σ.set j none).set j (some x))[j]? = some (some x) := by rw [List.set_set, List.getElem?_set_self hj]
      refine ⟨x, gj, x, _, t, p k, rfl, ht, kt, p k, rfl, ?_⟩
      have tk : (kvs.take (n + 1)).map (·.1) = (kvs.take n).map (·.1) ++ [k] := by rw [take_s hk, List.map_append]; rfl
      by_cases c : p k = true
      · dsimp only; rw [if_pos c]
        refine ⟨x, gj, PvG.put g hD e ?_ ?_⟩
        · rw [← Paired.length a]
          refine line_lt (Nat.le_trans (List.length_filter_le _ _) ?_) (m := 1000)
          rw [List.length_map]; exact take_len hl
        · rw [tk, List.filter_append, List.filter_cons_of_pos c]
          exact pair_snoc (Paired.mapP a fun _ _ z => z.keep (Tk.mut (by rw [e]; exact True.intro))) (ky.keep (Tk.mut (by rw [e]; exact True.intro)))
      · dsimp only; rw [if_neg c]
        refine ⟨g, ys, e, ?_⟩
        dsimp only
        rw [tk, List.filter_append, List.filter_cons_of_neg c]
        simpa using a
  · obtain ⟨g, ys, e, a⟩ := hP
    refine ⟨g _ _ upd_same, q _ _ (g.lock hx) (by rw [upd_ne hne] at hD; exact hD) ⟨ys, by rw [upd_ne hne]; exact e, ?_⟩⟩
    rw [List.take_length] at a
    refine Paired.mapP a fun _ _ z => z.keep fun b zs hb => ?_
    rcases hb with (hb | ⟨o, hb⟩) | hb
    · exact .inl (.inl (by rw [upd_ne (fun z => by rw [z, g _ _ upd_same] at hb; cases hb)]; exact hb))
    · exact .inl (.inr ⟨o, by rw [upd_ne (fun z => by rw [z, g _ _ upd_same] at hb; cases hb)]; exact hb⟩)
    · exact .inr hb
end
/-! ### sorted points -/
def keyD : Key → PyData
  | .inl i => .int i
  | .inr z => .str z
def ptD : PK → PyData
  | .inl k => keyD k
  | .inr ks => .tuple (ks.map keyD)
section
variable {K : PySem.W.Frag} {H : Hp}
theorem dp_key {k : Key} : Dp K H (kV k) (keyD k) := by cases k <;> constructor
theorem dp_keys : ∀ {ks : List Key}, DpAll K H (ks.map kV) (ks.map keyD)
  | [] => .nil
  | k :: ks => .cons dp_key dp_keys
theorem KyV.dp {k : PK} {v : V} (h : KyV K H k v) : Dp K H v (ptD k) := by
  cases k with
  | inl j => cases h; exact dp_key
  | inr ks => obtain ⟨a, rfl, q⟩ := h; exact .tup q dp_keys
def isStrK : PK → Bool
  | .inl (.inr _) => true
  | _ => false
def isTupK : PK → Bool
  | .inr _ => true
  | _ => false
theorem str_ty {P : Program} {w : World} (k : PK) (v : V) (H : Hp) (h : KyV K H k v) : ∃ t, TyA P w K H v t ∧ kitB t "str" = some (isStrK k) := by
  match k, h with
  | .inl (.inl i), h => cases h; exact ⟨_, .int i, rfl⟩
  | .inl (.inr z), h => cases h; exact ⟨_, .str z, rfl⟩
  | .inr ks, ⟨a, e, q⟩ => subst e; exact ⟨_, .tup q, rfl⟩
theorem tup_ty {P : Program} {w : World} (k : PK) (v : V) (H : Hp) (h : KyV K H k v) : ∃ t, TyA P w K H v t ∧ kitB t "tuple" = some (isTupK k) := by
  match k, h with
  | .inl (.inl i), h => cases h; exact ⟨_, .int i, rfl⟩
  | .inl (.inr z), h => cases h; exact ⟨_, .str z, rfl⟩
  | .inr ks, ⟨a, e, q⟩ => subst e; exact ⟨_, .tup q, rfl⟩
theorem zip_fst {α β : Type} {R : α → β → Prop} {as : List α} {bs : List β} (h : Paired R as bs) : (as.zip bs).map (·.1) = as ∧ (as.zip bs).map (·.2) = bs ∧ ∀ p ∈ as.zip bs, R p.1 p.2 := by
  induction h with
  | nil => exact ⟨rfl, rfl, fun _ h => by cases h⟩
  | cons r t ih =>
    refine ⟨by rw [List.zip_cons_cons, List.map_cons, ih.1], by rw [List.zip_cons_cons, List.map_cons, ih.2.1], fun p hp => ?_⟩
    rcases List.mem_cons.mp hp with rfl | hp
    · exact r
    · exact ih.2.2 p hp
theorem of_zip {α β : Type} {R : α → β → Prop} : ∀ {ps : List (α × β)}, (∀ p ∈ ps, R p.1 p.2) → Paired R (ps.map (·.1)) (ps.map (·.2))
  | [], _ => .nil
  | p :: ps, h => .cons (h p List.mem_cons_self) (of_zip fun q hq => h q (List.mem_cons_of_mem _ hq))
theorem pt_depth {k : PK} (h : isStrK k = true ∨ isTupK k = true ∧ GoodP k) : (ptD k).depth ≤ 8 := by
  rcases h with h | ⟨h, g⟩
  · match k, h with
    | .inl (.inr z), _ => simp [ptD, keyD, PyData.depth]
  · rcases g.cases with ⟨z, rfl, _⟩ | ⟨a, b, c, rfl, _⟩
    · cases h
    · simp [ptD, keyD, PyData.depth, PyData.depthAll]
theorem alike_of {ds : List PK} (h : (∀ k ∈ ds, isStrK k = true) ∨ ∀ k ∈ ds, isTupK k = true ∧ GoodP k) : PySem.W.AllAlike (ds.map ptD) := by
  intro d hd d' hd'
  obtain ⟨k, hk, rfl⟩ := List.mem_map.mp hd
  obtain ⟨k', hk', rfl⟩ := List.mem_map.mp hd'
  rcases h with h | h
  · match k, h k hk, k', h k' hk' with
    | .inl (.inr z), _, .inl (.inr z'), _ => rfl
  · obtain ⟨h1, g1⟩ := h k hk
    obtain ⟨h2, g2⟩ := h k' hk'
    rcases g1.cases with ⟨z, rfl, _⟩ | ⟨a, b, c, rfl, _⟩
    · cases h1
    · rcases g2.cases with ⟨z, rfl, _⟩ | ⟨a', b', c', rfl, _⟩
      · cases h2
      · rfl
theorem sortable_of {ds : List PK} (h : (∀ k ∈ ds, isStrK k = true) ∨ ∀ k ∈ ds, isTupK k = true ∧ GoodP k) : PySem.W.Sortable (ds.map ptD) := by
  rcases h with h | h
  · refine .inr fun d hd => ?_
    obtain ⟨k, hk, rfl⟩ := List.mem_map.mp hd
    match k, h k hk with
    | .inl (.inr z), _ => exact ⟨nofun, nofun⟩
  · refine .inl fun d hd => ?_
    obtain ⟨k, hk, rfl⟩ := List.mem_map.mp hd
    obtain ⟨h1, g1⟩ := h k hk
    rcases g1.cases with ⟨z, rfl, _⟩ | ⟨a, b, c, rfl, _⟩
    · cases h1
    · exact ⟨_, _, rfl⟩
theorem sort_pts {a : Addr} {Q : VK} {ks : List PK} (hv : PLV K H a ks) (hk : (∀ k ∈ ks, isStrK k = true) ∨ ∀ k ∈ ks, isTupK k = true ∧ GoodP k)
    (q : ∀ p ks' xs', H p = none → ks'.Perm ks → Paired (KyV K (upd H p (.lst xs'))) ks' xs' → Q (.ref p) (upd H p (.lst xs'))) : rSortD K [.ref a] H Q := by
  obtain ⟨xs, hx, pr⟩ := hv
  obtain ⟨z1, z2, z3⟩ := zip_fst pr
  have hmem : ∀ p ∈ ks.zip xs, p.1 ∈ ks := fun p hp => by rw [← z1]; exact List.mem_map_of_mem hp
  refine ⟨a, (ks.zip xs).map fun p => (p.2, ptD p.1), rfl, .inl (.inl ?_), fun b hb => ?_, ?_, ?_, fun p hp => ?_⟩
  · rw [List.map_map, hx]
    exact congrArg (fun l => some (HO.lst l)) z2.symm
  · obtain ⟨p, hp, rfl⟩ := List.mem_map.mp hb
    refine ⟨(z3 p hp).dp, pt_depth (hk.elim (fun h => .inl (h _ (hmem p hp))) fun h => .inr (h _ (hmem p hp)))⟩
  · rw [List.map_map, show ((fun x : V × PyData => x.2) ∘ fun p : PK × V => (p.2, ptD p.1)) = ptD ∘ (·.1) from rfl, ← List.map_map, z1]
    exact alike_of hk
  · rw [List.map_map, show ((fun x : V × PyData => x.2) ∘ fun p : PK × V => (p.2, ptD p.1)) = ptD ∘ (·.1) from rfl, ← List.map_map, z1]
    exact sortable_of hk
  · have e := List.map_mergeSort (r := fun a b : PK × V => PySem.W.dataLe false Prod.snd (a.2, ptD a.1) (b.2, ptD b.1)) (s := PySem.W.dataLe false (Prod.snd (α := V))) (f := fun p : PK × V => (p.2, ptD p.1)) (l := ks.zip xs) (fun _ _ _ _ => rfl)
    rw [← e, List.map_map]
    have pm := List.mergeSort_perm (ks.zip xs) (fun a b : PK × V => PySem.W.dataLe false Prod.snd (a.2, ptD a.1) (b.2, ptD b.1))
    have r := of_zip (R := KyV K H) (ps := (ks.zip xs).mergeSort (fun a b : PK × V => PySem.W.dataLe false Prod.snd (a.2, ptD a.1) (b.2, ptD b.1))) fun p hp => z3 p (pm.mem_iff.mp hp)
    refine q p _ _ hp ?_ (Paired.mapP r fun _ _ h => h.keep (Tk.new hp))
    have := pm.map (·.1)
    rw [z1] at this
    exact this
end
end Mk


set_option Elab.async false
set_option linter.all false
set_option maxRecDepth 100000
set_option maxHeartbeats 400000
/-! points_of -/
namespace Mk
open PySem PySem.Spec PyProof.Rows L2
section
variable {P : Program} {w : World} {K : PySem.W.Frag} {mg : Str → Option Value} {base : Heap}
def zeroP : PK := .inl (.inr "")
def allPts (ds : List Dif) : List PK := zeroP :: ds.flatMap fun d => [d.1, d.2.1]
def PtsOf (ds : List Dif) (ks : List PK) : Prop := ks.Nodup ∧ ∀ k, k ∈ ks ↔ k ∈ allPts ds
/-- the keys of the dict of points, row by row -/
def foundM : List Dif → List (PK × V)
  | [] => [(zeroP, .bl true)]
  | d :: ds => putK (putK (foundM ds) d.1 (.bl true)) d.2.1 (.bl true)
theorem foundM_nodup : ∀ ds, ((foundM ds).map (·.1)).Nodup
  | [] => by simp [foundM]
  | d :: ds => putK_nodup (putK_nodup (foundM_nodup ds))
theorem foundM_mem {k : PK} : ∀ ds, k ∈ (foundM ds).map (·.1) ↔ k ∈ allPts ds
  | [] => by simp [foundM, allPts]
  | d :: ds => by
    rw [foundM, putK_mem, putK_mem, foundM_mem ds]
    simp only [allPts, List.flatMap_cons, List.mem_cons, List.mem_append, List.not_mem_nil, or_false]
    constructor
    · rintro (h | h | h | h) <;> simp [h]
    · rintro (h | (h | h) | h) <;> simp [h]
theorem foundM_len : ∀ ds, (foundM ds).length ≤ 2 * ds.length + 1
  | [] => by simp [foundM]
  | d :: ds => by
    have h1 := foundM_len ds
    have h2 := putK_len (kvs := foundM ds) (k := d.1) (v := .bl true)
    have h3 := putK_len (kvs := putK (foundM ds) d.1 (.bl true)) (k := d.2.1) (v := .bl true)
    rw [foundM, List.length_cons]
    omega
theorem allPts_good {ds : List Dif} (hg : ∀ d ∈ ds, GoodD d) {k : PK} (h : k ∈ allPts ds) : GoodP k := by
  rcases List.mem_cons.mp h with rfl | h
  · exact ⟨by decide, by decide⟩
  · obtain ⟨d, hd, h⟩ := List.mem_flatMap.mp h
    obtain ⟨g1, g2, _⟩ := hg d hd
    simp only [List.mem_cons, List.not_mem_nil, or_false] at h
    rcases h with rfl | rfl
    · exact g1
    · exact g2
theorem ptsOf_found {ds : List Dif} (hg : ∀ d ∈ ds, GoodD d) {k1 k2 : List PK} (h1 : k1.Perm (((foundM ds.reverse).map (·.1)).filter isStrK)) (h2 : k2.Perm (((foundM ds.reverse).map (·.1)).filter isTupK)) : PtsOf ds (k1 ++ k2) := by
  have hm : ∀ k, k ∈ allPts ds.reverse ↔ k ∈ allPts ds := fun k => by simp [allPts]
  have nd := foundM_nodup ds.reverse
  refine ⟨List.nodup_append.mpr ⟨h1.nodup_iff.mpr (nd.filter _), h2.nodup_iff.mpr (nd.filter _), fun a ha b hb => ?_⟩, fun k => ?_⟩
  · have e1 := (List.mem_filter.mp (h1.mem_iff.mp ha)).2
    have e2 := (List.mem_filter.mp (h2.mem_iff.mp hb)).2
    rintro rfl
    match a, e1, e2 with
    | .inl _, _, e2 => cases e2
    | .inr _, e1, _ => cases e1
  · rw [List.mem_append, h1.mem_iff, h2.mem_iff, List.mem_filter, List.mem_filter, ← and_or_left, foundM_mem, hm]
    refine ⟨fun h => h.1, fun h => ⟨h, ?_⟩⟩
    rcases (allPts_good hg h).cases with ⟨z, rfl, _⟩ | ⟨a, b, c, rfl, _⟩
    · exact .inl rfl
    · exact .inr rfl
def spPts (K : PySem.W.Frag) : Sp := fun vs H Q _ => ∃ v ds, vs = [v] ∧ DsV K H ds v ∧ GoodDs ds ∧ ∀ H' p ks, Gx H H' → H p = none → PLV K H' p ks → PtsOf ds ks → Q (.ref p) H'
theorem pair_app {α β : Type} {R : α → β → Prop} {as cs : List α} {bs es : List β} (h : Paired R as bs) (k : Paired R cs es) : Paired R (as ++ cs) (bs ++ es) := by
  induction h with
  | nil => exact k
  | cons r _ ih => exact .cons r ih
theorem C_points_of (T : Tops mg) (D : Def K mg "points_of" s_points_of ["differences"]) : Cal P w K mg base "points_of" 1 ["differences"] (spPts K) := by
  refine Cal.of D sc_points_of (fun vs H Q E h => ?_) (fun f cdv A outer s H vs Q E hr h => ?_)
  · obtain ⟨i, k, rfl, _⟩ := h; rfl
  · obtain ⟨v, ds, rfl, ⟨a, vs, rfl, hS, hv⟩, ⟨hl, hg⟩, q⟩ := h
    have hu := hu_of hr
    have h0 := hr.units0
    have h20 : (A.deeper _).units + 20 < cLine := Nat.lt_of_le_of_lt (Nat.add_le_add_left (by decide : 20 ≤ 64) _) hr.units
    refine ⟨_, (pss_cons (ps_set (i := 1) sc_points_of.nd rfl (Or.inl rfl) (pe_disp1 h0 (pe_const T.c_ZERO (by rfl)) pe_bl))
      (pss_cons (ps_for PassesOwn.never rfl (pi_tup (pv 0)) (pg_tup rfl (pgs_cons (pg_name (i := 2) sc_points_of.nd rfl (Or.inl rfl)) (pgs_cons (pg_name (i := 3) sc_points_of.nd rfl (Or.inl rfl)) (pgs_cons (pg_name (i := 4) sc_points_of.nd rfl (Or.inl rfl)) pgs_nil))))
      (pss_cons (ps_asg pe_bl (pg_sub (pv 1) (pv 2) (set_dic hu)))
      (pss_one (ps_asg pe_bl (pg_sub (pv 1) (pv 3) (set_dic hu))))))
      (pss_cons (ps_set (i := 5) sc_points_of.nd rfl (Or.inl rfl) (pe_callB (call_sortD h20) (by rfl) T.b_sorted (by decide +kernel) (pa_cons (pe_lock (pe_lc (own := [("point", 6)]) rfl sc_points_of.nd (pi_dic (pv 1)) (blkOk_by (own := [("point", 6)]) (N := N_points_of) (sc := defScope s_points_of) (by decide +kernel)) (fun _ _ _ _ _ => (pg_name (i := 6) sc_points_of.nd rfl (Or.inl rfl))) (fun _ _ _ _ _ => (pts_one (pt_val (pe_callB (call_isA' (P := P) (w := w) (K := K) rfl rfl rfl) (by rfl) T.b_isinstance (by decide +kernel) (pa_cons (pv 6) (pa_cons (pe_bltn (v := .ty "str") (u := .type "str") (by rfl) T.b_str (by decide +kernel) rfl) pa_nil)))))) (fun _ _ _ _ _ => (pv 6)))) pa_nil)))
      (pss_one (ps_ret (pe_op op_cat (pv 5) (pe_callB (call_sortD h20) (by rfl) T.b_sorted (by decide +kernel) (pa_cons (pe_lock (pe_lc (own := [("point", 6)]) rfl sc_points_of.nd (pi_dic (pv 1)) (blkOk_by (own := [("point", 6)]) (N := N_points_of) (sc := defScope s_points_of) (by decide +kernel)) (fun _ _ _ _ _ => (pg_name (i := 6) sc_points_of.nd rfl (Or.inl rfl))) (fun _ _ _ _ _ => (pts_one (pt_val (pe_callB (call_isA' (P := P) (w := w) (K := K) rfl rfl rfl) (by rfl) T.b_isinstance (by decide +kernel) (pa_cons (pv 6) (pa_cons (pe_bltn (v := .ty "tuple") (u := .type "tuple") (by rfl) T.b_tuple (by decide +kernel) rfl) pa_nil)))))) (fun _ _ _ _ _ => (pv 6)))) pa_nil)))))))), ?_⟩
    simp only [cxOf, Cx.nox, L2.start, tRet, tAndV, tOrV, tNotV, tCB, tCons, tNil, tVar, tC, tOp, tUn, tChain, tIfS, tTest, tSeq, tNext, tB, tOr, tAnd, tNot, tAsg, tDrop, tCall, rI0, rI, rU, List.cons_append, List.nil_append, List.append_nil, List.map_cons, List.map_nil, List.length_cons, List.length_nil, Nat.reduceAdd, Nat.reduceSub, List.replicate_succ, List.replicate_zero, List.getElem?_cons_zero, List.getElem?_cons_succ, Option.some.injEq, exists_eq_left, exists_eq_left', exists_eq_right, V.int.injEq, V.bl.injEq, V.str.injEq, V.ref.injEq, true_and, and_true, exists_and_left, if_true, if_false, gTup, gCons, gNil, gSub, gName, Mk.rSetD, List.set_cons_zero, List.set_cons_succ, Bool.false_eq_true, List.cons.injEq, Bool.not_true, Bool.not_false, eq_self, decide_true, decide_false, c3, N_points_of, tDisp1]
    intro D u hD hD0
    refine ⟨zeroP, rfl, hD0, fun u1 hD1 => ?_⟩
    refine ⟨_, rfl, a, rfl, ⟨vs, ((Gx.new hD).mut hD).seqT hS⟩, for_it (walk_tup (xs := vs)) (fun i σ H' => ∃ x2 x3 x4, σ = [some (.ref a), some (.ref D), x2, x3, x4, none, none] ∧ Gx H H' ∧ DicW P w K H' D (foundM (ds.take i).reverse)) ⟨_, _, _, rfl, (Gx.new hD).mut hD, hD1⟩ (fun i σ H' _ h => ?_) (fun i x σ H1 H2 hi hP hY => ?_) (fun σ H1 hP => ?_)⟩
    · obtain ⟨_, _, _, _, g, _⟩ := h
      exact g.seqT hS
    · obtain ⟨rfl, hx⟩ := hY
      obtain ⟨x2, x3, x4, rfl, g, hd⟩ := hP
      obtain ⟨d, hdi, hdx⟩ := pair_at hv hx
      obtain ⟨p, y1, y2, rfl, hp, k1, k2⟩ := hdx.keep g.tk
      have ll : (foundM (ds.take i).reverse).length ≤ 121 := by
        have h1 := foundM_len (ds.take i).reverse
        have h2 := take_len (i := i) hl
        rw [List.length_reverse] at h1
        omega
      have hn : (ds.take (i + 1)).reverse = d :: (ds.take i).reverse := by rw [take_s hdi, List.reverse_append]; rfl
      refine ⟨p, _, rfl, hp, rfl, _, _, rfl, _, _, rfl, _, _, rfl, rfl, ?_⟩
      simp only [cxOf, Cx.nox, L2.start, tRet, tAndV, tOrV, tNotV, tCB, tCons, tNil, tVar, tC, tOp, tUn, tChain, tIfS, tTest, tSeq, tNext, tB, tOr, tAnd, tNot, tAsg, tDrop, tCall, rI0, rI, rU, List.cons_append, List.nil_append, List.append_nil, List.map_cons, List.map_nil, List.length_cons, List.length_nil, Nat.reduceAdd, Nat.reduceSub, List.replicate_succ, List.replicate_zero, List.getElem?_cons_zero, List.getElem?_cons_succ, Option.some.injEq, exists_eq_left, exists_eq_left', exists_eq_right, V.int.injEq, V.bl.injEq, V.str.injEq, V.ref.injEq, true_and, and_true, exists_and_left, if_true, if_false, gTup, gCons, gNil, gSub, gName, Mk.rSetD, List.set_cons_zero, List.set_cons_succ, Bool.false_eq_true, List.cons.injEq, Bool.not_true, Bool.not_false, eq_self, decide_true, decide_false, c3]
      refine ⟨_, hd, d.1, k1, line_lt ll, fun u2 h2 => ?_⟩
      have kk : Tk K H2 (upd H2 D u2) := Tk.mut hd.mut
      refine ⟨_, h2, d.2.1, k2.keep kk, line_lt (Nat.le_trans putK_len (Nat.succ_le_succ ll)), fun u3 h3 => ?_⟩
      refine ⟨_, _, _, ⟨rfl, rfl, rfl⟩, (g.mut hD).mut hD, ?_⟩
      rw [hn]
      exact h3
    · obtain ⟨x2, x3, x4, rfl, g, hd⟩ := hP
      rw [show vs.length = ds.length from (Paired.length hv).symm, List.take_length] at hd
      have hl2 : (foundM ds.reverse).length ≤ 1000 := by
        have := foundM_len ds.reverse
        rw [List.length_reverse] at this
        omega
      simp only [cxOf, Cx.nox, L2.start, tRet, tAndV, tOrV, tNotV, tCB, tCons, tNil, tVar, tC, tOp, tUn, tChain, tIfS, tTest, tSeq, tNext, tB, tOr, tAnd, tNot, tAsg, tDrop, tCall, rI0, rI, rU, List.cons_append, List.nil_append, List.append_nil, List.map_cons, List.map_nil, List.length_cons, List.length_nil, Nat.reduceAdd, Nat.reduceSub, List.replicate_succ, List.replicate_zero, List.getElem?_cons_zero, List.getElem?_cons_succ, Option.some.injEq, exists_eq_left, exists_eq_left', exists_eq_right, V.int.injEq, V.bl.injEq, V.str.injEq, V.ref.injEq, true_and, and_true, exists_and_left, if_true, if_false, gTup, gCons, gNil, gSub, gName, Mk.rSetD, List.set_cons_zero, List.set_cons_succ, Bool.false_eq_true, List.cons.injEq, Bool.not_true, Bool.not_false, eq_self, decide_true, decide_false, c3]
      refine filt_dic isStrK str_ty (by decide) rfl (Nat.le_refl 7) hd hl2 fun H3 r g3 hr3 pl3 => ?_
      refine sort_pts pl3 (.inl fun k hk => (List.mem_filter.mp hk).2) fun p ks1 xs1 hp pm1 pr1 => ?_
      have gg : Gx H1 (upd H3 p (.lst xs1)) := g3.mut (g3.free hp)
      refine filt_dic isTupK tup_ty (by decide) rfl (Nat.le_refl 7) (gg.dicW hd) hl2 fun H4 r4 g4 hr4 pl4 => ?_
      refine sort_pts pl4 (.inr fun k hk => ?_) fun p5 ks5 xs5 hp5 pm5 pr5 => ?_
      · obtain ⟨hm, ht⟩ := List.mem_filter.mp hk
        refine ⟨ht, allPts_good (ds := ds.reverse) (fun d hd => hg d (List.mem_reverse.mp hd)) ((foundM_mem _).mp hm)⟩
      have g5 : Gx H4 (upd H4 p5 (.lst xs5)) := .new hp5
      have e1 : (upd H4 p5 (.lst xs5)) p = some (.lst xs1) := g5 _ _ (g4 _ _ upd_same)
      have l1 : xs1.length ≤ 1000 := by
        rw [← Paired.length pr1, pm1.length_eq]
        exact Nat.le_trans (List.length_filter_le _ _) (by rw [List.length_map]; exact hl2)
      have l5 : xs5.length ≤ 1000 := by
        rw [← Paired.length pr5, pm5.length_eq]
        exact Nat.le_trans (List.length_filter_le _ _) (by rw [List.length_map]; exact hl2)
      refine ⟨p, p5, xs1, xs5, rfl, rfl, e1, upd_same, line_le (m := 2000) (by omega), fun p6 hp6 => ?_⟩
      have g6 : Gx H1 (upd H4 p5 (.lst xs5)) := gg.trans (g4.trans g5)
      refine q _ p6 (ks1 ++ ks5) (g.trans (g6.trans (.new hp6))) ((g.trans g6).free hp6) ⟨_, upd_same, ?_⟩ (ptsOf_found hg pm1 pm5)
      exact pair_app (Paired.mapP pr1 fun _ _ z => z.keep ((g4.trans (g5.trans (.new hp6))).tk)) (Paired.mapP pr5 fun _ _ z => z.keep (Gx.new hp6).tk)
end
end Mk


set_option Elab.async false
set_option linter.all false
set_option maxRecDepth 100000
set_option maxHeartbeats 400000
/-! dicts of numbers; heaps that grow but for two objects; improved, as a fold -/
namespace Mk
open PySem PySem.Spec PyProof.Rows L2
section
variable {β : Type}
def putA (kvs : List (PK × β)) (k : PK) (v : β) : List (PK × β) :=
  if (kvs.any fun kv => decide (kv.1 = k)) = true then kvs.map (fun kv => if kv.1 = k then (kv.1, v) else kv) else kvs ++ [(k, v)]
def lookA (kvs : List (PK × β)) (k : PK) : Option β := (kvs.find? fun kv => decide (kv.1 = k)).map (·.2)
theorem lookA_nil {k : PK} : lookA ([] : List (PK × β)) k = none := rfl
theorem lookA_cons {p : PK × β} {kvs : List (PK × β)} {k : PK} : lookA (p :: kvs) k = if p.1 = k then some p.2 else lookA kvs k := by
  by_cases e : p.1 = k <;> simp [lookA, List.find?_cons, e]
theorem lookA_mem {kvs : List (PK × β)} {k : PK} : (lookA kvs k).isSome = true ↔ k ∈ kvs.map (·.1) := by
  induction kvs with
  | nil => simp [lookA_nil]
  | cons p kvs ih =>
    rw [lookA_cons, List.map_cons, List.mem_cons]
    by_cases e : p.1 = k
    · simp [e]
    · rw [if_neg e, ih]
      exact ⟨.inr, fun h => h.elim (fun z => absurd z.symm e) id⟩
theorem lookA_none {kvs : List (PK × β)} {k : PK} : lookA kvs k = none ↔ k ∉ kvs.map (·.1) := by
  rw [← lookA_mem, Bool.not_eq_true, Option.isSome_eq_false_iff, Option.isNone_iff_eq_none]
theorem any_iff {kvs : List (PK × β)} {k : PK} : (kvs.any fun kv => decide (kv.1 = k)) = true ↔ k ∈ kvs.map (·.1) := by
  rw [List.any_eq_true, List.mem_map]
  exact ⟨fun ⟨p, a, b⟩ => ⟨p, a, by simpa using b⟩, fun ⟨p, a, b⟩ => ⟨p, a, by simpa using b⟩⟩
theorem lookA_app {l r : List (PK × β)} {k : PK} : lookA (l ++ r) k = (lookA l k).or (lookA r k) := by
  induction l with
  | nil => rfl
  | cons p l ih =>
    rw [List.cons_append, lookA_cons, lookA_cons, ih]
    by_cases e : p.1 = k <;> simp [e]
theorem lookA_put {kvs : List (PK × β)} {k x : PK} {v : β} : lookA (putA kvs k v) x = if x = k then some v else lookA kvs x := by
  unfold putA
  by_cases h : (kvs.any fun kv => decide (kv.1 = k)) = true
  · rw [if_pos h]
    have hm := any_iff.mp h
    clear h
    induction kvs with
    | nil => cases hm
    | cons p kvs ih =>
      rw [List.map_cons, lookA_cons, lookA_cons]
      by_cases e : p.1 = k
      · rw [if_pos e]
        by_cases q : x = k
        · simp [e, q]
        · rw [if_neg q, if_neg (fun z => q (z.symm.trans e)), if_neg (fun z => q (z.symm.trans e))]
          by_cases hk : k ∈ kvs.map (·.1)
          · rw [ih hk, if_neg q]
          · have : kvs.map (fun kv => if kv.1 = k then (kv.1, v) else kv) = kvs := by
              conv => rhs; rw [← List.map_id kvs]
              refine List.map_congr_left fun r hr => ?_
              have hr1 : r.1 ∈ kvs.map (·.1) := List.mem_map_of_mem hr
              rw [if_neg (fun z : r.1 = k => hk (by rw [← z]; exact hr1))]; rfl
            rw [this]
      · rw [if_neg e]
        have hk : k ∈ kvs.map (·.1) := by
          rcases List.mem_cons.mp hm with z | z
          · exact absurd z.symm e
          · exact z
        rw [ih hk]
        by_cases q : p.1 = x
        · rw [if_pos q, if_pos q, if_neg (fun z => e (q.trans z))]
        · rw [if_neg q, if_neg q]
  · rw [if_neg h, lookA_app]
    have hn : k ∉ kvs.map (·.1) := fun z => h (any_iff.mpr z)
    rw [lookA_cons, lookA_nil]
    by_cases q : x = k
    · subst q
      rw [lookA_none.mpr hn]; simp
    · rw [if_neg (fun z => q z.symm), if_neg q]; simp
theorem putA_len {kvs : List (PK × β)} {k : PK} {v : β} : (putA kvs k v).length ≤ kvs.length + 1 := by
  unfold putA
  by_cases h : (kvs.any fun kv => decide (kv.1 = k)) = true
  · rw [if_pos h, List.length_map]; omega
  · rw [if_neg h, List.length_append]; exact Nat.le_refl _
theorem putA_mem {kvs : List (PK × β)} {k x : PK} {v : β} : x ∈ (putA kvs k v).map (·.1) ↔ x = k ∨ x ∈ kvs.map (·.1) := by
  rw [← lookA_mem, lookA_put, ← lookA_mem]
  by_cases q : x = k <;> simp [q]
theorem putA_nodup {kvs : List (PK × β)} {k : PK} {v : β} (h : (kvs.map (·.1)).Nodup) : ((putA kvs k v).map (·.1)).Nodup := by
  unfold putA
  by_cases e : (kvs.any fun kv => decide (kv.1 = k)) = true
  · rw [if_pos e, List.map_map]
    have : ((fun x : PK × β => x.1) ∘ fun kv => if kv.1 = k then (kv.1, v) else kv) = (·.1) := by
      funext p
      by_cases q : p.1 = k <;> simp [q]
    rw [this]; exact h
  · have hn : k ∉ kvs.map (·.1) := fun z => e (any_iff.mpr z)
    rw [if_neg e, List.map_append, List.map_singleton, List.nodup_append]
    exact ⟨h, by simp, fun a ha b hb => by rw [List.mem_singleton] at hb; subst hb; exact fun z => hn (z ▸ ha)⟩
/-- as values -/
def VM (f : β → V) (kvs : List (PK × β)) : List (PK × V) := kvs.map fun p => (p.1, f p.2)
theorem VM_put {f : β → V} {kvs : List (PK × β)} {k : PK} {v : β} : VM f (putA kvs k v) = putK (VM f kvs) k (f v) := by
  unfold VM putA putK
  have e : ((kvs.map fun p => (p.1, f p.2)).any fun kv => decide (kv.1 = k)) = (kvs.any fun kv => decide (kv.1 = k)) := by rw [List.any_map]; rfl
  rw [e]
  by_cases h : (kvs.any fun kv => decide (kv.1 = k)) = true
  · rw [if_pos h, if_pos h, List.map_map, List.map_map]
    refine List.map_congr_left fun p _ => ?_
    by_cases q : p.1 = k <;> simp [q]
  · rw [if_neg h, if_neg h, List.map_append]; rfl
theorem VM_look {f : β → V} {kvs : List (PK × β)} {k : PK} : valV (VM f kvs) k = (lookA kvs k).map f := by
  induction kvs with
  | nil => rfl
  | cons p kvs ih =>
    rw [lookA_cons]
    by_cases e : p.1 = k
    · rw [if_pos e]
      exact valV_pos e
    · rw [if_neg e, ← ih]
      exact valV_neg e
theorem VM_len {f : β → V} {kvs : List (PK × β)} : (VM f kvs).length = kvs.length := List.length_map ..
end
abbrev Num := List (PK × Int)
abbrev IM (N : Num) : List (PK × V) := VM V.int N
/-- one row of improved: the numbers, the steps, whether something has changed -/
def stepM (s : Num × Num × Bool) (i : Int) (d : Dif) : Num × Num × Bool :=
  match lookA s.1 d.2.1 with
  | none => s
  | some y => match lookA s.1 d.1 with
    | none => (putA s.1 d.1 (y + d.2.2), putA s.2.1 d.1 i, true)
    | some x => if y + d.2.2 < x then (putA s.1 d.1 (y + d.2.2), putA s.2.1 d.1 i, true) else s
theorem stepM_none {N S : Num} {b : Bool} {i : Int} {d : Dif} (h : lookA N d.2.1 = none) : stepM (N, S, b) i d = (N, S, b) := by simp [stepM, h]
theorem stepM_new {N S : Num} {b : Bool} {i y : Int} {d : Dif} (h : lookA N d.2.1 = some y) (h2 : lookA N d.1 = none) : stepM (N, S, b) i d = (putA N d.1 (y + d.2.2), putA S d.1 i, true) := by simp [stepM, h, h2]
theorem stepM_lt {N S : Num} {b : Bool} {i y x : Int} {d : Dif} (h : lookA N d.2.1 = some y) (h2 : lookA N d.1 = some x) (h3 : y + d.2.2 < x) : stepM (N, S, b) i d = (putA N d.1 (y + d.2.2), putA S d.1 i, true) := by simp [stepM, h, h2, h3]
theorem stepM_ge {N S : Num} {b : Bool} {i y x : Int} {d : Dif} (h : lookA N d.2.1 = some y) (h2 : lookA N d.1 = some x) (h3 : ¬ y + d.2.2 < x) : stepM (N, S, b) i d = (N, S, b) := by simp [stepM, h, h2, h3]
def roundM (s : Num × Num × Bool) (i : Nat) : List Dif → Num × Num × Bool
  | [] => s
  | d :: ds => roundM (stepM s i d) (i + 1) ds
theorem roundM_app (s : Num × Num × Bool) (i : Nat) : ∀ (l r : List Dif), roundM s i (l ++ r) = roundM (roundM s i l) (i + l.length) r
  | [], r => rfl
  | d :: l, r => by
    rw [List.cons_append, roundM, roundM, roundM_app _ _ l r, List.length_cons]
    congr 1; omega
def improvedM (ds : List Dif) (N S : Num) : Num × Num × Bool := roundM (N, S, false) 0 ds
theorem stepM_len (s : Num × Num × Bool) (i : Int) (d : Dif) : (stepM s i d).1.length ≤ s.1.length + 1 ∧ (stepM s i d).2.1.length ≤ s.2.1.length + 1 := by
  unfold stepM
  split
  · exact ⟨Nat.le_succ _, Nat.le_succ _⟩
  · split
    · exact ⟨putA_len, putA_len⟩
    · split
      · exact ⟨putA_len, putA_len⟩
      · exact ⟨Nat.le_succ _, Nat.le_succ _⟩
theorem roundM_len (s : Num × Num × Bool) (i : Nat) : ∀ ds : List Dif, (roundM s i ds).1.length ≤ s.1.length + ds.length ∧ (roundM s i ds).2.1.length ≤ s.2.1.length + ds.length
  | [] => ⟨Nat.le_refl _, Nat.le_refl _⟩
  | d :: ds => by
    have h1 := stepM_len s i d
    have h2 := roundM_len (stepM s i d) (i + 1) ds
    rw [roundM, List.length_cons]
    omega
/-- a heap that grows but for two objects -/
def Gx2 (k l : Addr) (H H' : Hp) : Prop := ∀ a o, a ≠ k → a ≠ l → H a = some o → H' a = some o
section
variable {K : PySem.W.Frag} {H H1 H2 H' : Hp} {k l p : Addr} {o : HO}
theorem Gx2.refl : Gx2 k l H H := fun _ _ _ _ h => h
theorem Gx2.trans (a : Gx2 k l H H1) (b : Gx2 k l H1 H2) : Gx2 k l H H2 := fun x u m n h => b x u m n (a x u m n h)
theorem Gx.but2 (e : Gx H H') : Gx2 k l H H' := fun a o _ _ h => e a o h
theorem Gx2.set1 : Gx2 k l H (upd H k o) := fun a u m n e => by rw [upd_ne m]; exact e
theorem Gx2.set2 : Gx2 k l H (upd H l o) := fun a u m n e => by rw [upd_ne n]; exact e
theorem Gx2.new (h : H p = none) : Gx2 k l H (upd H p o) := (Gx.new h).but2
/-- something of k and l is not a tuple -/
theorem Gx2.tk (e : Gx2 k l H H') (hk : Mut (H k)) (hl : Mut (H l)) : Tk K H H' := fun a xs q => by
  have z : ∀ u, H a = some u → ¬ Mut (some u) → H' a = some u := fun u e1 e2 => e a u (fun z => by subst z; rw [e1] at hk; exact e2 hk) (fun z => by subst z; rw [e1] at hl; exact e2 hl) e1
  rcases q with (q | ⟨u, q⟩) | q
  · exact .inl (.inl (z _ q fun h => h))
  · exact .inl (.inr ⟨u, z _ q fun h => h⟩)
  · exact .inr q
theorem GxB.tkM (e : GxB k H H') (hk : Mut (H k)) : Tk K H H' := fun a xs q => by
  have z : ∀ u, H a = some u → ¬ Mut (some u) → H' a = some u := fun u e1 e2 => e a u (fun z => by subst z; rw [e1] at hk; exact e2 hk) e1
  rcases q with (q | ⟨u, q⟩) | q
  · exact .inl (.inl (z _ q fun h => h))
  · exact .inl (.inr ⟨u, z _ q fun h => h⟩)
  · exact .inr q
theorem Gx2.gx (e : Gx2 k l H H') (hk : H k = none) (hl : H l = none) : Gx H H' := fun a o h => e a o (fun z => by subst z; rw [hk] at h; cases h) (fun z => by subst z; rw [hl] at h; cases h) h
theorem Gx2.gxB (e : Gx2 k l H H') (hl : H l = none) : GxB k H H' := fun a o h1 h => e a o h1 (fun z => by subst z; rw [hl] at h; cases h) h
end
end Mk


set_option Elab.async false
set_option linter.all false
set_option maxRecDepth 100000
set_option maxHeartbeats 400000
/-! improved, settled -/
namespace Mk
open PySem PySem.Spec PyProof.Rows L2
section
variable {P : Program} {w : World} {K : PySem.W.Frag} {mg : Str → Option Value} {base : Heap}
def spImp (P : Program) (w : World) (K : PySem.W.Frag) : Sp := fun vs H Q _ => ∃ v dn dt ds N S, vs = [v, .ref dn, .ref dt] ∧ DsV K H ds v ∧ ds.length ≤ 60 ∧ dn ≠ dt ∧ DicW P w K H dn (IM N) ∧ DicW P w K H dt (IM S) ∧ N.length ≤ 200000 ∧ S.length ≤ 200000 ∧
  ∀ H', Gx2 dn dt H H' → DicW P w K H' dn (IM (improvedM ds N S).1) → DicW P w K H' dt (IM (improvedM ds N S).2.1) → Q (.bl (improvedM ds N S).2.2) H'
theorem C_improved (T : Tops mg) (D : Def K mg "improved" s_improved ["differences", "numbers", "steps"]) : Cal P w K mg base "improved" 1 ["differences", "numbers", "steps"] (spImp P w K) := by
  refine Cal.of D sc_improved (fun vs H Q E h => ?_) (fun f cdv A outer s H vs Q E hr h => ?_)
  · obtain ⟨v, dn, dt, ds, N, S, rfl, _⟩ := h; rfl
  · obtain ⟨v, dn, dt, ds, N, S, rfl, ⟨a, vs, rfl, hS, hv⟩, hl, hne, hN, hSt, lN, lS, q⟩ := h
    have hu := hu_of hr
    have h0 := hr.units0
    refine ⟨_, (pss_cons (ps_set (i := 3) sc_improved.nd rfl (Or.inl rfl) pe_bl)
      (pss_cons (ps_for PassesOwn.never rfl (pi_enumT (by rfl) T.b_enumerate (pa_cons (pv 0) pa_nil)) (pg_tup rfl (pgs_cons (pg_name (i := 4) sc_improved.nd rfl (Or.inl rfl)) (pgs_cons (pg_name (i := 5) sc_improved.nd rfl (Or.inl rfl)) pgs_nil)))
      (pss_cons (ps_asg (pv 5) (pg_tup rfl (pgs_cons (pg_name (i := 6) sc_improved.nd rfl (Or.inl rfl)) (pgs_cons (pg_name (i := 7) sc_improved.nd rfl (Or.inl rfl)) (pgs_cons (pg_name (i := 8) sc_improved.nd rfl (Or.inl rfl)) pgs_nil)))))
      (pss_one (ps_if (PW.pt (pw_and (pt_cmpR (op_inD' hu (P := P) (w := w) (K := K) rfl rfl rfl) (pv 7) (pv 1) (by rfl)) (pw_and1 (PW.pt (pw_or (pt_cmpR (op_notInD' hu (P := P) (w := w) (K := K) rfl rfl rfl) (pv 6) (pv 1) (by rfl)) (pw_or1 (pt_cmpR op_lt (pe_op op_add (pe_ix (ix_dic' hu (P := P) (w := w) (K := K) rfl rfl rfl) (pv 1) (pv 7) (fun _ _ => rfl)) (pv 8)) (pe_ix (ix_dic' hu (P := P) (w := w) (K := K) rfl rfl rfl) (pv 1) (pv 6) (fun _ _ => rfl)) (nomark _)))))))) (pss_cons (ps_asg (pe_op op_add (pe_ix (ix_dic' hu (P := P) (w := w) (K := K) rfl rfl rfl) (pv 1) (pv 7) (fun _ _ => rfl)) (pv 8)) (pg_sub (pv 1) (pv 6) (set_dic hu)))
      (pss_cons (ps_asg (pv 4) (pg_sub (pv 2) (pv 6) (set_dic hu)))
      (pss_one (ps_set (i := 3) sc_improved.nd rfl (Or.inl rfl) pe_bl)))) pss_nil))))
      (pss_one (ps_ret (pv 3))))), ?_⟩
    simp only [cxOf, Cx.nox, L2.start, tRet, tAndV, tOrV, tNotV, tCB, tCons, tNil, tVar, tC, tOp, tUn, tChain, tIfS, tTest, tSeq, tNext, tB, tOr, tAnd, tNot, tAsg, tDrop, tCall, rI0, rI, rU, List.cons_append, List.nil_append, List.append_nil, List.map_cons, List.map_nil, List.length_cons, List.length_nil, Nat.reduceAdd, Nat.reduceSub, List.replicate_succ, List.replicate_zero, List.getElem?_cons_zero, List.getElem?_cons_succ, Option.some.injEq, exists_eq_left, exists_eq_left', exists_eq_right, V.int.injEq, V.bl.injEq, V.str.injEq, V.ref.injEq, true_and, and_true, exists_and_left, if_true, if_false, gTup, gCons, gNil, gSub, gName, Mk.rSetD, List.set_cons_zero, List.set_cons_succ, Bool.false_eq_true, List.cons.injEq, Bool.not_true, Bool.not_false, eq_self, decide_true, decide_false, c3, N_improved]
    have mN := hN.mut
    have mS := hSt.mut
    refine ⟨_, rfl, a, vs, rfl, hS, for_it (walk_enumT (xs := vs)) (fun i σ H' => ∃ x4 x5 x6 x7 x8, σ = [some (.ref a), some (.ref dn), some (.ref dt), some (.bl (roundM (N, S, false) 0 (ds.take i)).2.2), x4, x5, x6, x7, x8] ∧ Gx2 dn dt H H' ∧
      DicW P w K H' dn (IM (roundM (N, S, false) 0 (ds.take i)).1) ∧ DicW P w K H' dt (IM (roundM (N, S, false) 0 (ds.take i)).2.1)) ⟨_, _, _, _, _, rfl, .refl, hN, hSt⟩ (fun i σ H' _ h => ?_) (fun i x σ H1 H2 hi hP hY => ?_) (fun σ H1 hP => ?_)⟩
    · obtain ⟨_, _, _, _, _, _, g, _⟩ := h
      exact (g.tk mN mS) _ _ hS
    · obtain ⟨t, y1, y2, rfl, ht, rfl, e1, e2⟩ := hY
      obtain rfl : V.int i = y1 := Option.some.inj e1
      obtain ⟨x4, x5, x6, x7, x8, rfl, g, hn, hs⟩ := hP
      obtain ⟨d, hdi, hdx⟩ := pair_at hv e2
      have g' : Gx2 dn dt H (upd H1 t (.tup [.int i, y2])) := g.trans (.new ht)
      have nt : Gx H1 (upd H1 t (.tup [.int i, y2])) := .new ht
      obtain ⟨p, z1, z2, rfl, hp, k1, k2⟩ := hdx.keep (g'.tk mN mS)
      have hn1 := nt.dicW hn
      have hs1 := nt.dicW hs
      have ln := roundM_len (N, S, false) 0 (ds.take i)
      have lt := take_len (i := i) hl
      dsimp only at ln
      have er : roundM (N, S, false) 0 (ds.take (i + 1)) = stepM (roundM (N, S, false) 0 (ds.take i)) i d := by
        rw [take_s hdi, roundM_app, Nat.zero_add, List.length_take, Nat.min_eq_left (Nat.le_of_lt (by have := (List.getElem?_eq_some_iff.mp hdi).1; exact this))]; rfl
      generalize roundM (N, S, false) 0 (ds.take i) = st at *
      obtain ⟨Ni, Si, bi⟩ := st
      refine ⟨t, _, rfl, .inl (.inl upd_same), rfl, _, _, rfl, _, _, rfl, rfl, ?_⟩
      simp only [cxOf, Cx.nox, L2.start, tRet, tAndV, tOrV, tNotV, tCB, tCons, tNil, tVar, tC, tOp, tUn, tChain, tIfS, tTest, tSeq, tNext, tB, tOr, tAnd, tNot, tAsg, tDrop, tCall, rI0, rI, rU, List.cons_append, List.nil_append, List.append_nil, List.map_cons, List.map_nil, List.length_cons, List.length_nil, Nat.reduceAdd, Nat.reduceSub, List.replicate_succ, List.replicate_zero, List.getElem?_cons_zero, List.getElem?_cons_succ, Option.some.injEq, exists_eq_left, exists_eq_left', exists_eq_right, V.int.injEq, V.bl.injEq, V.str.injEq, V.ref.injEq, true_and, and_true, exists_and_left, if_true, if_false, gTup, gCons, gNil, gSub, gName, Mk.rSetD, List.set_cons_zero, List.set_cons_succ, Bool.false_eq_true, List.cons.injEq, Bool.not_true, Bool.not_false, eq_self, decide_true, decide_false, c3]
      dsimp only at hn hs hn1 hs1 ln
      generalize upd H1 t (.tup [.int i, .ref p]) = H2 at *
      have hq : ∀ (H3 : Hp) (s3 : Num × Num × Bool), stepM (Ni, Si, bi) i d = s3 → Gx2 dn dt H2 H3 → DicW P w K H3 dn (IM s3.1) → DicW P w K H3 dt (IM s3.2.1) →
          s3.2.2 = (roundM (N, S, false) 0 (ds.take (i + 1))).2.2 ∧ Gx2 dn dt H H3 ∧ DicW P w K H3 dn (IM (roundM (N, S, false) 0 (ds.take (i + 1))).1) ∧ DicW P w K H3 dt (IM (roundM (N, S, false) 0 (ds.take (i + 1))).2.1) := by
        intro H3 s3 e g3 d3 d4
        rw [er, e]
        exact ⟨rfl, g'.trans g3, d3, d4⟩
      have hx : ∀ {b : Bool} {a4 a5 a6 a7 a8 : Option V} {H3 : Hp}, (b = (roundM (N, S, false) 0 (ds.take (i + 1))).2.2 ∧ Gx2 dn dt H H3 ∧ DicW P w K H3 dn (IM (roundM (N, S, false) 0 (ds.take (i + 1))).1) ∧ DicW P w K H3 dt (IM (roundM (N, S, false) 0 (ds.take (i + 1))).2.1)) →
          ∃ x4 x5 x6 x7 x8, (b = (roundM (N, S, false) 0 (ds.take (i + 1))).2.2 ∧ a4 = x4 ∧ a5 = x5 ∧ a6 = x6 ∧ a7 = x7 ∧ a8 = x8) ∧ Gx2 dn dt H H3 ∧ DicW P w K H3 dn (IM (roundM (N, S, false) 0 (ds.take (i + 1))).1) ∧ DicW P w K H3 dt (IM (roundM (N, S, false) 0 (ds.take (i + 1))).2.1) :=
        fun ⟨q1, q2⟩ => ⟨_, _, _, _, _, ⟨q1, rfl, rfl, rfl, rfl, rfl⟩, q2⟩
      have mn2 := hn1.mut
      have ms2 := hs1.mut
      have l1 : (IM Ni).length < sizeLine := by rw [VM_len]; exact line_lt (m := 200060) (by omega)
      have l2 : (IM Si).length < sizeLine := by rw [VM_len]; exact line_lt (m := 200060) (by omega)
      have look2 : ∀ {H' : Hp} {y : Int} (_ : lookA Ni d.2.1 = some y) (hd : DicW P w K H' dn (IM Ni)) (t : Tk K H2 H') {Q : VK}, Q (.int y) H' → Mk.rIxD P w K (.ref dn) z2 H' Q := fun e5 hd t _ q => ⟨dn, _, d.2.1, _, rfl, hd.r, k2.keep t, by rw [VM_look, e5]; rfl, q⟩
      have look1 : ∀ {H' : Hp} {y : Int} (_ : lookA Ni d.1 = some y) (hd : DicW P w K H' dn (IM Ni)) (t : Tk K H2 H') {Q : VK}, Q (.int y) H' → Mk.rIxD P w K (.ref dn) z1 H' Q := fun e5 hd t _ q => ⟨dn, _, d.1, _, rfl, hd.r, k1.keep t, by rw [VM_look, e5]; rfl, q⟩
      refine ⟨_, hp, rfl, _, _, rfl, _, _, rfl, _, _, rfl, rfl, dn, _, d.2.1, rfl, hn1.r, k2, ?_⟩
      rw [VM_look]
      rcases e5 : lookA Ni d.2.1 with _ | y
      · refine ⟨false, rfl, ?_⟩
        simp only [cxOf, Cx.nox, L2.start, tRet, tAndV, tOrV, tNotV, tCB, tCons, tNil, tVar, tC, tOp, tUn, tChain, tIfS, tTest, tSeq, tNext, tB, tOr, tAnd, tNot, tAsg, tDrop, tCall, rI0, rI, rU, List.cons_append, List.nil_append, List.append_nil, List.map_cons, List.map_nil, List.length_cons, List.length_nil, Nat.reduceAdd, Nat.reduceSub, List.replicate_succ, List.replicate_zero, List.getElem?_cons_zero, List.getElem?_cons_succ, Option.some.injEq, exists_eq_left, exists_eq_left', exists_eq_right, V.int.injEq, V.bl.injEq, V.str.injEq, V.ref.injEq, true_and, and_true, exists_and_left, if_true, if_false, gTup, gCons, gNil, gSub, gName, Mk.rSetD, List.set_cons_zero, List.set_cons_succ, Bool.false_eq_true, List.cons.injEq, Bool.not_true, Bool.not_false, eq_self, decide_true, decide_false, c3]
        exact hx (hq _ _ (stepM_none e5) .refl hn1 hs1)
      · refine ⟨true, rfl, ?_⟩
        simp only [cxOf, Cx.nox, L2.start, tRet, tAndV, tOrV, tNotV, tCB, tCons, tNil, tVar, tC, tOp, tUn, tChain, tIfS, tTest, tSeq, tNext, tB, tOr, tAnd, tNot, tAsg, tDrop, tCall, rI0, rI, rU, List.cons_append, List.nil_append, List.append_nil, List.map_cons, List.map_nil, List.length_cons, List.length_nil, Nat.reduceAdd, Nat.reduceSub, List.replicate_succ, List.replicate_zero, List.getElem?_cons_zero, List.getElem?_cons_succ, Option.some.injEq, exists_eq_left, exists_eq_left', exists_eq_right, V.int.injEq, V.bl.injEq, V.str.injEq, V.ref.injEq, true_and, and_true, exists_and_left, if_true, if_false, gTup, gCons, gNil, gSub, gName, Mk.rSetD, List.set_cons_zero, List.set_cons_succ, Bool.false_eq_true, List.cons.injEq, Bool.not_true, Bool.not_false, eq_self, decide_true, decide_false, c3]
        refine ⟨dn, _, d.1, rfl, hn1.r, k1, ?_⟩
        rw [VM_look]
        rcases e6 : lookA Ni d.1 with _ | x
        · refine ⟨true, rfl, ?_⟩
          simp only [cxOf, Cx.nox, L2.start, tRet, tAndV, tOrV, tNotV, tCB, tCons, tNil, tVar, tC, tOp, tUn, tChain, tIfS, tTest, tSeq, tNext, tB, tOr, tAnd, tNot, tAsg, tDrop, tCall, rI0, rI, rU, List.cons_append, List.nil_append, List.append_nil, List.map_cons, List.map_nil, List.length_cons, List.length_nil, Nat.reduceAdd, Nat.reduceSub, List.replicate_succ, List.replicate_zero, List.getElem?_cons_zero, List.getElem?_cons_succ, Option.some.injEq, exists_eq_left, exists_eq_left', exists_eq_right, V.int.injEq, V.bl.injEq, V.str.injEq, V.ref.injEq, true_and, and_true, exists_and_left, if_true, if_false, gTup, gCons, gNil, gSub, gName, Mk.rSetD, List.set_cons_zero, List.set_cons_succ, Bool.false_eq_true, List.cons.injEq, Bool.not_true, Bool.not_false, eq_self, decide_true, decide_false, c3]
          refine look2 e5 hn1 .refl ?_
          simp only [cxOf, Cx.nox, L2.start, tRet, tAndV, tOrV, tNotV, tCB, tCons, tNil, tVar, tC, tOp, tUn, tChain, tIfS, tTest, tSeq, tNext, tB, tOr, tAnd, tNot, tAsg, tDrop, tCall, rI0, rI, rU, List.cons_append, List.nil_append, List.append_nil, List.map_cons, List.map_nil, List.length_cons, List.length_nil, Nat.reduceAdd, Nat.reduceSub, List.replicate_succ, List.replicate_zero, List.getElem?_cons_zero, List.getElem?_cons_succ, Option.some.injEq, exists_eq_left, exists_eq_left', exists_eq_right, V.int.injEq, V.bl.injEq, V.str.injEq, V.ref.injEq, true_and, and_true, exists_and_left, if_true, if_false, gTup, gCons, gNil, gSub, gName, Mk.rSetD, List.set_cons_zero, List.set_cons_succ, Bool.false_eq_true, List.cons.injEq, Bool.not_true, Bool.not_false, eq_self, decide_true, decide_false, c3]
          refine ⟨_, hn1, d.1, k1, l1, fun u h1 => ⟨_, hs1.keep (upd_ne hne.symm) (Tk.mut mn2), d.1, k1.keep (Tk.mut mn2), l2, fun u2 h2 => ?_⟩⟩
          have mm := (hs1.keep (H' := upd H2 dn u) (upd_ne hne.symm) (Tk.mut mn2)).mut
          exact hx (hq _ _ (stepM_new e5 e6) (Gx2.set1.trans .set2) (by dsimp only [IM]; rw [VM_put]; exact h1.keep (upd_ne hne) (Tk.mut mm)) (by dsimp only [IM]; rw [VM_put]; exact h2))
        · refine ⟨false, rfl, ?_⟩
          simp only [cxOf, Cx.nox, L2.start, tRet, tAndV, tOrV, tNotV, tCB, tCons, tNil, tVar, tC, tOp, tUn, tChain, tIfS, tTest, tSeq, tNext, tB, tOr, tAnd, tNot, tAsg, tDrop, tCall, rI0, rI, rU, List.cons_append, List.nil_append, List.append_nil, List.map_cons, List.map_nil, List.length_cons, List.length_nil, Nat.reduceAdd, Nat.reduceSub, List.replicate_succ, List.replicate_zero, List.getElem?_cons_zero, List.getElem?_cons_succ, Option.some.injEq, exists_eq_left, exists_eq_left', exists_eq_right, V.int.injEq, V.bl.injEq, V.str.injEq, V.ref.injEq, true_and, and_true, exists_and_left, if_true, if_false, gTup, gCons, gNil, gSub, gName, Mk.rSetD, List.set_cons_zero, List.set_cons_succ, Bool.false_eq_true, List.cons.injEq, Bool.not_true, Bool.not_false, eq_self, decide_true, decide_false, c3]
          refine look2 e5 hn1 .refl ?_
          simp only [cxOf, Cx.nox, L2.start, tRet, tAndV, tOrV, tNotV, tCB, tCons, tNil, tVar, tC, tOp, tUn, tChain, tIfS, tTest, tSeq, tNext, tB, tOr, tAnd, tNot, tAsg, tDrop, tCall, rI0, rI, rU, List.cons_append, List.nil_append, List.append_nil, List.map_cons, List.map_nil, List.length_cons, List.length_nil, Nat.reduceAdd, Nat.reduceSub, List.replicate_succ, List.replicate_zero, List.getElem?_cons_zero, List.getElem?_cons_succ, Option.some.injEq, exists_eq_left, exists_eq_left', exists_eq_right, V.int.injEq, V.bl.injEq, V.str.injEq, V.ref.injEq, true_and, and_true, exists_and_left, if_true, if_false, gTup, gCons, gNil, gSub, gName, Mk.rSetD, List.set_cons_zero, List.set_cons_succ, Bool.false_eq_true, List.cons.injEq, Bool.not_true, Bool.not_false, eq_self, decide_true, decide_false, c3]
          refine look1 e6 hn1 .refl ?_
          simp only [cxOf, Cx.nox, L2.start, tRet, tAndV, tOrV, tNotV, tCB, tCons, tNil, tVar, tC, tOp, tUn, tChain, tIfS, tTest, tSeq, tNext, tB, tOr, tAnd, tNot, tAsg, tDrop, tCall, rI0, rI, rU, List.cons_append, List.nil_append, List.append_nil, List.map_cons, List.map_nil, List.length_cons, List.length_nil, Nat.reduceAdd, Nat.reduceSub, List.replicate_succ, List.replicate_zero, List.getElem?_cons_zero, List.getElem?_cons_succ, Option.some.injEq, exists_eq_left, exists_eq_left', exists_eq_right, V.int.injEq, V.bl.injEq, V.str.injEq, V.ref.injEq, true_and, and_true, exists_and_left, if_true, if_false, gTup, gCons, gNil, gSub, gName, Mk.rSetD, List.set_cons_zero, List.set_cons_succ, Bool.false_eq_true, List.cons.injEq, Bool.not_true, Bool.not_false, eq_self, decide_true, decide_false, c3]
          by_cases e7 : y + d.2.2 < x
          · simp only [cxOf, Cx.nox, L2.start, tRet, tAndV, tOrV, tNotV, tCB, tCons, tNil, tVar, tC, tOp, tUn, tChain, tIfS, tTest, tSeq, tNext, tB, tOr, tAnd, tNot, tAsg, tDrop, tCall, rI0, rI, rU, List.cons_append, List.nil_append, List.append_nil, List.map_cons, List.map_nil, List.length_cons, List.length_nil, Nat.reduceAdd, Nat.reduceSub, List.replicate_succ, List.replicate_zero, List.getElem?_cons_zero, List.getElem?_cons_succ, Option.some.injEq, exists_eq_left, exists_eq_left', exists_eq_right, V.int.injEq, V.bl.injEq, V.str.injEq, V.ref.injEq, true_and, and_true, exists_and_left, if_true, if_false, gTup, gCons, gNil, gSub, gName, Mk.rSetD, List.set_cons_zero, List.set_cons_succ, Bool.false_eq_true, List.cons.injEq, Bool.not_true, Bool.not_false, eq_self, decide_true, decide_false, c3, e7]
            refine look2 e5 hn1 .refl ?_
            simp only [cxOf, Cx.nox, L2.start, tRet, tAndV, tOrV, tNotV, tCB, tCons, tNil, tVar, tC, tOp, tUn, tChain, tIfS, tTest, tSeq, tNext, tB, tOr, tAnd, tNot, tAsg, tDrop, tCall, rI0, rI, rU, List.cons_append, List.nil_append, List.append_nil, List.map_cons, List.map_nil, List.length_cons, List.length_nil, Nat.reduceAdd, Nat.reduceSub, List.replicate_succ, List.replicate_zero, List.getElem?_cons_zero, List.getElem?_cons_succ, Option.some.injEq, exists_eq_left, exists_eq_left', exists_eq_right, V.int.injEq, V.bl.injEq, V.str.injEq, V.ref.injEq, true_and, and_true, exists_and_left, if_true, if_false, gTup, gCons, gNil, gSub, gName, Mk.rSetD, List.set_cons_zero, List.set_cons_succ, Bool.false_eq_true, List.cons.injEq, Bool.not_true, Bool.not_false, eq_self, decide_true, decide_false, c3]
            refine ⟨_, hn1, d.1, k1, l1, fun u h1 => ⟨_, hs1.keep (upd_ne hne.symm) (Tk.mut mn2), d.1, k1.keep (Tk.mut mn2), l2, fun u2 h2 => ?_⟩⟩
            have mm := (hs1.keep (H' := upd H2 dn u) (upd_ne hne.symm) (Tk.mut mn2)).mut
            exact hx (hq _ _ (stepM_lt e5 e6 e7) (Gx2.set1.trans .set2) (by dsimp only [IM]; rw [VM_put]; exact h1.keep (upd_ne hne) (Tk.mut mm)) (by dsimp only [IM]; rw [VM_put]; exact h2))
          · simp only [cxOf, Cx.nox, L2.start, tRet, tAndV, tOrV, tNotV, tCB, tCons, tNil, tVar, tC, tOp, tUn, tChain, tIfS, tTest, tSeq, tNext, tB, tOr, tAnd, tNot, tAsg, tDrop, tCall, rI0, rI, rU, List.cons_append, List.nil_append, List.append_nil, List.map_cons, List.map_nil, List.length_cons, List.length_nil, Nat.reduceAdd, Nat.reduceSub, List.replicate_succ, List.replicate_zero, List.getElem?_cons_zero, List.getElem?_cons_succ, Option.some.injEq, exists_eq_left, exists_eq_left', exists_eq_right, V.int.injEq, V.bl.injEq, V.str.injEq, V.ref.injEq, true_and, and_true, exists_and_left, if_true, if_false, gTup, gCons, gNil, gSub, gName, Mk.rSetD, List.set_cons_zero, List.set_cons_succ, Bool.false_eq_true, List.cons.injEq, Bool.not_true, Bool.not_false, eq_self, decide_true, decide_false, c3, e7]
            exact hx (hq _ _ (stepM_ge e5 e6 e7) .refl hn1 hs1)
    · obtain ⟨x4, x5, x6, x7, x8, rfl, g, hn, hs⟩ := hP
      rw [show vs.length = ds.length from (Paired.length hv).symm, List.take_length] at *
      simp only [cxOf, Cx.nox, L2.start, tRet, tAndV, tOrV, tNotV, tCB, tCons, tNil, tVar, tC, tOp, tUn, tChain, tIfS, tTest, tSeq, tNext, tB, tOr, tAnd, tNot, tAsg, tDrop, tCall, rI0, rI, rU, List.cons_append, List.nil_append, List.append_nil, List.map_cons, List.map_nil, List.length_cons, List.length_nil, Nat.reduceAdd, Nat.reduceSub, List.replicate_succ, List.replicate_zero, List.getElem?_cons_zero, List.getElem?_cons_succ, Option.some.injEq, exists_eq_left, exists_eq_left', exists_eq_right, V.int.injEq, V.bl.injEq, V.str.injEq, V.ref.injEq, true_and, and_true, exists_and_left, if_true, if_false, gTup, gCons, gNil, gSub, gName, Mk.rSetD, List.set_cons_zero, List.set_cons_succ, Bool.false_eq_true, List.cons.injEq, Bool.not_true, Bool.not_false, eq_self, decide_true, decide_false, c3]
      exact q _ g hn hs
theorem nodup_len {α : Type} [DecidableEq α] : ∀ {l r : List α}, l.Nodup → (∀ x ∈ l, x ∈ r) → l.length ≤ r.length
  | [], _, _, _ => Nat.zero_le _
  | a :: l, r, h, hs => by
    obtain ⟨h1, h2⟩ := List.nodup_cons.mp h
    have ha := hs a List.mem_cons_self
    have := nodup_len (r := r.erase a) h2 fun x hx => (List.mem_erase_of_ne (fun e => h1 (by rw [← e]; exact hx))).mpr (hs x (List.mem_cons_of_mem _ hx))
    rw [List.length_erase_of_mem ha] at this
    have := List.length_pos_of_mem ha
    rw [List.length_cons]; omega
theorem allPts_len : ∀ {ds : List Dif}, (allPts ds).length = 2 * ds.length + 1
  | [] => rfl
  | d :: ds => by
    have := allPts_len (ds := ds)
    rw [allPts, List.length_cons] at *
    rw [List.flatMap_cons, List.length_append, List.length_cons, List.length_cons, List.length_cons, List.length_nil]
    omega
theorem GxB.dicW {d : Addr} {H H' : Hp} {kvs : List (PK × V)} {k : Addr} (g : GxB k H H') (m : Mut (H k)) (n : d ≠ k) (h : DicW P w K H d kvs) : DicW P w K H' d kvs :=
  let ⟨xs, a, b⟩ := h
  ⟨xs, g _ _ n a, b.keep (g.tkM m)⟩
/-- rounds of improved, at most k -/
def settledM (ds : List Dif) : Nat → Num → Num → Num × Num × Bool
  | 0, N, S => (N, S, true)
  | k + 1, N, S => if (improvedM ds N S).2.2 = true then settledM ds k (improvedM ds N S).1 (improvedM ds N S).2.1 else ((improvedM ds N S).1, (improvedM ds N S).2.1, false)
def spSet (P : Program) (w : World) (K : PySem.W.Frag) : Sp := fun vs H Q _ => ∃ v dn ds N, vs = [v, .ref dn] ∧ DsV K H ds v ∧ GoodDs ds ∧ DicW P w K H dn (IM N) ∧ N.length ≤ 1000 ∧
  ∀ H' p dt ks, GxB dn H H' → H p = none → H dt = none → SqT K H' p [.ref dt, .bl (settledM ds (ks.length + N.length + 1) N []).2.2] → PtsOf ds ks → DicW P w K H' dn (IM (settledM ds (ks.length + N.length + 1) N []).1) →
    DicW P w K H' dt (IM (settledM ds (ks.length + N.length + 1) N []).2.1) → Q (.ref p) H'
theorem C_settled (T : Tops mg) (D : Def K mg "settled" s_settled ["differences", "numbers"]) (C_points_of : Cal P w K mg base "points_of" 1 ["differences"] (spPts K)) (C_improved : Cal P w K mg base "improved" 1 ["differences", "numbers", "steps"] (spImp P w K)) : Cal P w K mg base "settled" 2 ["differences", "numbers"] (spSet P w K) := by
  refine Cal.of D sc_settled (fun vs H Q E h => ?_) (fun f cdv A outer s H vs Q E hr h => ?_)
  · obtain ⟨v, dn, ds, N, rfl, _⟩ := h; rfl
  · obtain ⟨v, dn, ds, N, rfl, hv, hg, hN, lN, q⟩ := h
    have hu := hu_of hr
    have h0 := hr.units0
    refine ⟨_, (pss_cons (ps_par rfl sc_settled.nd (i := 2) (j := 3) rfl rfl (by decide) rfl rfl (pa_cons (pe_toP pe_dnewK) (pa_cons (pe_cal C_points_of hr (by decide) (by rfl) (pa_cons (pv 0) pa_nil)) pa_nil)) (by rfl))
      (pss_cons (ps_for PassesOwn.never rfl (pi_range1 (by rfl) T.b_range (pa_cons (pe_op op_add (pe_op op_add (pe_callB call_len_seq (by rfl) T.b_len (by decide +kernel) (pa_cons (pv 3) pa_nil)) (pe_callB call_lenD (by rfl) T.b_len (by decide +kernel) (pa_cons (pv 1) pa_nil))) pe_int) pa_nil)) (pg_name (i := 4) sc_settled.nd rfl (Or.inl rfl))
      (pss_one (ps_if (pt_not (pt_val (pe_cal C_improved hr (by decide) (by rfl) (pa_cons (pv 0) (pa_cons (pv 1) (pa_cons (pv 2) pa_nil)))))) (pss_one (ps_ret (pe_tup (pa_cons (pv 2) (pa_cons pe_bl pa_nil))))) pss_nil)))
      (pss_one (ps_ret (pe_tup (pa_cons (pv 2) (pa_cons pe_bl pa_nil))))))), ?_⟩
    simp only [cxOf, Cx.nox, L2.start, tRet, tAndV, tOrV, tNotV, tCB, tCons, tNil, tVar, tC, tOp, tUn, tChain, tIfS, tTest, tSeq, tNext, tB, tOr, tAnd, tNot, tAsg, tDrop, tCall, rI0, rI, rU, List.cons_append, List.nil_append, List.append_nil, List.map_cons, List.map_nil, List.length_cons, List.length_nil, Nat.reduceAdd, Nat.reduceSub, List.replicate_succ, List.replicate_zero, List.getElem?_cons_zero, List.getElem?_cons_succ, Option.some.injEq, exists_eq_left, exists_eq_left', exists_eq_right, V.int.injEq, V.bl.injEq, V.str.injEq, V.ref.injEq, true_and, and_true, exists_and_left, if_true, if_false, gTup, gCons, gNil, gSub, gName, Mk.rSetD, List.set_cons_zero, List.set_cons_succ, Bool.false_eq_true, List.cons.injEq, Bool.not_true, Bool.not_false, eq_self, decide_true, decide_false, c3, N_settled, tPar, tToP]
    intro dt hdt
    refine ⟨dt, rfl, [], upd_same, fun u hdt0 => ?_⟩
    rw [upd_upd] at hdt0 ⊢
    have g1 : Gx H (upd H dt u) := .new hdt
    have mN := hN.mut
    have hne : dn ≠ dt := hN.ne_none hdt
    refine ⟨v, ds, rfl, hv.keep g1.tk, hg, fun H1 pp ks g2 hpp plv pts => ?_⟩
    have g3 := g1.trans g2
    have lks : ks.length ≤ 121 := by
      refine Nat.le_trans (nodup_len pts.1 (fun k hk => (pts.2 k).mp hk)) ?_
      have := hg.1
      rw [allPts_len]
      omega
    refine ⟨_, _, ⟨rfl, rfl⟩, ?_⟩
    obtain ⟨pxs, hpx, hpr⟩ := plv
    have lpx : pxs.length = ks.length := (Paired.length hpr).symm
    have mt : (↑pxs.length + ↑(IM N).length + 1 : Int) = ((ks.length + N.length + 1 : Nat) : Int) := by rw [VM_len, lpx]; simp
    refine ⟨_, rfl, pp, rfl, pxs, .inl (.inl (.inl hpx)), _, rfl, dn, _, rfl, (g3.dicW hN).r, _, _, rfl, rfl, _, _, rfl, rfl, _, rfl, ?_, ?_, ?_⟩
    · rw [mt]; omega
    · rw [mt]; have : ks.length + N.length + 1 ≤ 2000 := by omega
      omega
    rw [mt, Int.toNat_natCast]
    generalize hn : ks.length + N.length + 1 = n at *
    have ln : n ≤ 2000 := by omega
    refine for_it walk_range (fun i σ H' => ∃ x4 Ni Si, σ = [some v, some (.ref dn), some (.ref dt), some (.ref pp), x4] ∧ GxB dn H H' ∧ DicW P w K H' dn (IM Ni) ∧ DicW P w K H' dt (IM Si) ∧ Ni.length ≤ 1000 + 60 * i ∧ Si.length ≤ 60 * i ∧ settledM ds n N [] = settledM ds (n - i) Ni Si)
      ⟨_, N, [], rfl, g3.but, g3.dicW hN, g2.dicW hdt0, by omega, Nat.zero_le _, rfl⟩ (fun _ _ _ _ _ => trivial) (fun i x σ H2 H3 hi hP hY => ?_) (fun σ H2 hP => ?_)
    · obtain ⟨rfl, rfl⟩ := hY
      obtain ⟨x4, Ni, Si, rfl, g, hn1, hs1, l1, l2, e⟩ := hP
      simp only [cxOf, Cx.nox, L2.start, tRet, tAndV, tOrV, tNotV, tCB, tCons, tNil, tVar, tC, tOp, tUn, tChain, tIfS, tTest, tSeq, tNext, tB, tOr, tAnd, tNot, tAsg, tDrop, tCall, rI0, rI, rU, List.cons_append, List.nil_append, List.append_nil, List.map_cons, List.map_nil, List.length_cons, List.length_nil, Nat.reduceAdd, Nat.reduceSub, List.replicate_succ, List.replicate_zero, List.getElem?_cons_zero, List.getElem?_cons_succ, Option.some.injEq, exists_eq_left, exists_eq_left', exists_eq_right, V.int.injEq, V.bl.injEq, V.str.injEq, V.ref.injEq, true_and, and_true, exists_and_left, if_true, if_false, gTup, gCons, gNil, gSub, gName, Mk.rSetD, List.set_cons_zero, List.set_cons_succ, Bool.false_eq_true, List.cons.injEq, Bool.not_true, Bool.not_false, eq_self, decide_true, decide_false, c3]
      have ll := roundM_len (Ni, Si, false) 0 ds
      have hl := hg.1
      refine ⟨v, dn, dt, ds, Ni, Si, rfl, hv.keep (g.tkM mN), hg.1, hne, hn1, hs1, by omega, by omega, fun H4 g4 hn4 hs4 => ?_⟩
      have gg : GxB dn H H4 := fun a o n1 h => g4 a o n1 (fun z => by subst z; rw [hdt] at h; cases h) (g a o n1 h)
      have en : n - i = (n - (i + 1)) + 1 := by omega
      rw [en, settledM] at e
      dsimp only at ll
      have ll1 : (improvedM ds Ni Si).1.length ≤ Ni.length + ds.length := ll.1
      have ll2 : (improvedM ds Ni Si).2.1.length ≤ Si.length + ds.length := ll.2
      rcases hb : (improvedM ds Ni Si).2.2 with _ | _
      · rw [hb] at e
        refine ⟨false, rfl, ?_⟩
        simp only [cxOf, Cx.nox, L2.start, tRet, tAndV, tOrV, tNotV, tCB, tCons, tNil, tVar, tC, tOp, tUn, tChain, tIfS, tTest, tSeq, tNext, tB, tOr, tAnd, tNot, tAsg, tDrop, tCall, rI0, rI, rU, List.cons_append, List.nil_append, List.append_nil, List.map_cons, List.map_nil, List.length_cons, List.length_nil, Nat.reduceAdd, Nat.reduceSub, List.replicate_succ, List.replicate_zero, List.getElem?_cons_zero, List.getElem?_cons_succ, Option.some.injEq, exists_eq_left, exists_eq_left', exists_eq_right, V.int.injEq, V.bl.injEq, V.str.injEq, V.ref.injEq, true_and, and_true, exists_and_left, if_true, if_false, gTup, gCons, gNil, gSub, gName, Mk.rSetD, List.set_cons_zero, List.set_cons_succ, Bool.false_eq_true, List.cons.injEq, Bool.not_true, Bool.not_false, eq_self, decide_true, decide_false, c3, tTup]
        refine ⟨by decide, fun p hp => ?_⟩
        rw [if_neg Bool.false_ne_true] at e
        have hpn : H p = none := by
          rcases hh : H p with _ | o
          · rfl
          · have : p ≠ dn := fun z => by rw [z] at hp; have := hn4.mut; rw [hp] at this; exact this.elim
            rw [gg p o this hh] at hp; cases hp
        have gn : Gx H4 (upd H4 p (.tup [.ref dt, .bl false])) := .new hp
        refine q _ p dt ks (gg.trans gn.but) hpn hdt ?_ pts ?_ ?_
        · rw [hn, e]; exact .inl (.inl upd_same)
        · rw [hn, e]; exact gn.dicW hn4
        · rw [hn, e]; exact gn.dicW hs4
      · rw [hb, if_pos rfl] at e
        refine ⟨true, rfl, ?_⟩
        simp only [cxOf, Cx.nox, L2.start, tRet, tAndV, tOrV, tNotV, tCB, tCons, tNil, tVar, tC, tOp, tUn, tChain, tIfS, tTest, tSeq, tNext, tB, tOr, tAnd, tNot, tAsg, tDrop, tCall, rI0, rI, rU, List.cons_append, List.nil_append, List.append_nil, List.map_cons, List.map_nil, List.length_cons, List.length_nil, Nat.reduceAdd, Nat.reduceSub, List.replicate_succ, List.replicate_zero, List.getElem?_cons_zero, List.getElem?_cons_succ, Option.some.injEq, exists_eq_left, exists_eq_left', exists_eq_right, V.int.injEq, V.bl.injEq, V.str.injEq, V.ref.injEq, true_and, and_true, exists_and_left, if_true, if_false, gTup, gCons, gNil, gSub, gName, Mk.rSetD, List.set_cons_zero, List.set_cons_succ, Bool.false_eq_true, List.cons.injEq, Bool.not_true, Bool.not_false, eq_self, decide_true, decide_false, c3]
        exact ⟨gg, _, hn4, _, hs4, by omega, by omega, e⟩
    · obtain ⟨x4, Ni, Si, rfl, g, hn1, hs1, l1, l2, e⟩ := hP
      simp only [cxOf, Cx.nox, L2.start, tRet, tAndV, tOrV, tNotV, tCB, tCons, tNil, tVar, tC, tOp, tUn, tChain, tIfS, tTest, tSeq, tNext, tB, tOr, tAnd, tNot, tAsg, tDrop, tCall, rI0, rI, rU, List.cons_append, List.nil_append, List.append_nil, List.map_cons, List.map_nil, List.length_cons, List.length_nil, Nat.reduceAdd, Nat.reduceSub, List.replicate_succ, List.replicate_zero, List.getElem?_cons_zero, List.getElem?_cons_succ, Option.some.injEq, exists_eq_left, exists_eq_left', exists_eq_right, V.int.injEq, V.bl.injEq, V.str.injEq, V.ref.injEq, true_and, and_true, exists_and_left, if_true, if_false, gTup, gCons, gNil, gSub, gName, Mk.rSetD, List.set_cons_zero, List.set_cons_succ, Bool.false_eq_true, List.cons.injEq, Bool.not_true, Bool.not_false, eq_self, decide_true, decide_false, c3, tTup]
      refine ⟨by decide, fun p hp => ?_⟩
      rw [Nat.sub_self, settledM] at e
      have hpn : H p = none := by
        rcases hh : H p with _ | o
        · rfl
        · have : p ≠ dn := fun z => by rw [z] at hp; have := hn1.mut; rw [hp] at this; exact this.elim
          rw [g p o this hh] at hp; cases hp
      have gn : Gx H2 (upd H2 p (.tup [.ref dt, .bl true])) := .new hp
      refine q _ p dt ks (g.trans gn.but) hpn hdt ?_ pts ?_ ?_
      · rw [hn, e]; exact .inl (.inl upd_same)
      · rw [hn, e]; exact gn.dicW hn1
      · rw [hn, e]; exact gn.dicW hs1
end
end Mk


set_option Elab.async false
set_option linter.all false
set_option maxRecDepth 100000
set_option maxHeartbeats 400000
/-! points as data: equality, shape -/
namespace Mk
open PySem PySem.Spec PyProof.Rows L2
theorem eqv_key (a b : Key) : PyData.eqv (keyD a) (keyD b) = decide (a = b) := by
  rcases a with i | x <;> rcases b with j | y
  · by_cases h : i = j <;> simp [keyD, PyData.eqv, h]
  · simp [keyD, PyData.eqv]
  · simp [keyD, PyData.eqv]
  · by_cases h : x = y <;> simp [keyD, PyData.eqv, h]
theorem eqv_keys : ∀ a b : List Key, PyData.eqvAll (a.map keyD) (b.map keyD) = decide (a = b)
  | [], [] => by simp [PyData.eqvAll]
  | [], b :: bs => by simp [PyData.eqvAll]
  | a :: as, [] => by simp [PyData.eqvAll]
  | a :: as, b :: bs => by
    rw [List.map_cons, List.map_cons, PyData.eqvAll, eqv_key, eqv_keys as bs]
    by_cases h : a = b <;> by_cases k : as = bs <;> simp [h, k]
theorem eqv_pt (a b : PK) : PyData.eqv (ptD a) (ptD b) = decide (a = b) := by
  rcases a with i | x <;> rcases b with j | y
  · have := eqv_key i j
    simpa [ptD] using this
  · rcases i with i | i <;> simp [ptD, keyD, PyData.eqv]
  · rcases j with j | j <;> simp [ptD, keyD, PyData.eqv]
  · have := eqv_keys x y
    simpa [ptD, PyData.eqv] using this
theorem letter_ok {c : Nat} (h : letterB c = true) : c < 0x110000 := by
  have : ∀ c ∈ ("abcdefghijklmnopqrstuvwxyz" : Str).cps.toList, c < 0x110000 := by decide
  exact this c (of_decide_eq_true h)
theorem digit_ok {c : Nat} (h : digitB c = true) : c < 0x110000 := by
  have : ∀ c ∈ ("0123456789" : Str).cps.toList, c < 0x110000 := by decide
  exact this c (of_decide_eq_true h)
theorem strOk_of {z : Str} (h : ∀ c ∈ z.cps.toList, c < 0x110000) : PyData.strOk z = true := by
  unfold PyData.strOk
  rw [Array.all_eq_true']
  intro c hc
  simpa using h c (by simpa using hc)
theorem nameB_ok {z : Str} (h : nameB z = true) : PyData.strOk z = true := by
  unfold nameB at h
  rw [Bool.and_eq_true, List.all_eq_true] at h
  exact strOk_of fun c hc => letter_ok (h.2 c hc)
theorem newB_ok {z : Str} (h : newB z = true) : PyData.strOk z = true := by
  unfold newB at h
  split at h
  · rename_i c d r hz
    rw [Bool.and_eq_true, Bool.and_eq_true, List.all_eq_true] at h
    refine strOk_of fun x hx => ?_
    rw [hz] at hx
    rcases List.mem_cons.mp hx with rfl | hx
    · rw [of_decide_eq_true h.1.1]; decide
    · exact digit_ok (h.2 x hx)
  · cases h
theorem placeB_ok {z : Str} (h : placeB z = true) : PyData.strOk z = true := by
  unfold placeB at h
  rw [Bool.or_eq_true, Bool.or_eq_true] at h
  rcases h with (h | h) | h
  · rw [of_decide_eq_true h]; exact strOk_of (by decide)
  · exact nameB_ok h
  · exact newB_ok h
theorem canLay_pt {k : PK} (h : GoodP k) : (ptD k).canLay0 = true ∧ (ptD k).depth ≤ 1 := by
  rcases h.cases with ⟨z, rfl, _, hz⟩ | ⟨a, b, c, rfl, _, ha, _, hb, _⟩
  · refine ⟨?_, Nat.zero_le _⟩
    rw [ptD, keyD, PyData.canLay0]; exact placeB_ok hz
  · refine ⟨?_, Nat.le_refl _⟩
    rw [ptD, PyData.canLay0]
    simp [keyD, PyData.canLayAll0, PyData.canLay0, nameB_ok ha, placeB_ok hb]
theorem shaped_pt {k : PK} (h : GoodP k) : SeqAt.shaped (ptD k) = true := by
  obtain ⟨a, b⟩ := canLay_pt h
  unfold SeqAt.shaped
  rw [a, Bool.true_and]
  exact decide_eq_true (by omega)
theorem shaped_pts {ks : List PK} (h : ∀ k ∈ ks, GoodP k) : SeqAt.shaped (.list (ks.map ptD)) = true := by
  have e : PyData.canLayAll0 (ks.map ptD) = true ∧ PyData.depthAll (ks.map ptD) ≤ 1 := by
    induction ks with
    | nil => exact ⟨rfl, Nat.zero_le _⟩
    | cons k ks ih =>
      obtain ⟨a, b⟩ := canLay_pt (h k List.mem_cons_self)
      obtain ⟨c, d⟩ := ih fun x hx => h x (List.mem_cons_of_mem _ hx)
      refine ⟨?_, ?_⟩
      · rw [List.map_cons, PyData.canLayAll0, a, c]; rfl
      · rw [List.map_cons, PyData.depthAll]; omega
  unfold SeqAt.shaped
  rw [PyData.canLay0, e.1, PyData.depth, Bool.true_and]
  exact decide_eq_true (by omega)
theorem dpAll_pts {K : PySem.W.Frag} {H : Hp} {ks : List PK} {xs : List V} (h : Paired (KyV K H) ks xs) : DpAll K H xs (ks.map ptD) := by
  induction h with
  | nil => exact .nil
  | cons r _ ih => exact .cons r.dp ih
end Mk


set_option Elab.async false
set_option linter.all false
set_option maxRecDepth 100000
set_option maxHeartbeats 400000
/-! ring_in, ring_of -/
namespace Mk
open PySem PySem.Spec PyProof.Rows L2
/-- the point before p by the steps -/
def nxM (ds : List Dif) (S : Num) (p : PK) : PK := match lookA S p with
  | some i => match ds[i.toNat]? with
    | some d => d.2.1
    | none => p
  | none => p
def chM (ds : List Dif) (S : Num) : Nat → PK → PK
  | 0, p => p
  | n + 1, p => nxM ds S (chM ds S n p)
/-- the steps name rows that stand -/
def StepOk (ds : List Dif) (S : Num) : Prop := ∀ p i, lookA S p = some i → 0 ≤ i ∧ i.toNat < ds.length
/-- from some point the steps never end -/
def HasCyc (ds : List Dif) (S : Num) : Prop := ∃ st, st ∈ S.map (·.1) ∧ ∀ n, chM ds S n st ∈ S.map (·.1)
/-- a ring told by its rows -/
def RingM (ds : List Dif) (S : Num) (rs : List Int) : Prop := ∃ (p : PK) (m : Nat), 0 < m ∧ chM ds S m p = p ∧ (∀ n, chM ds S n p ∈ S.map (·.1)) ∧ rs = (List.range m).map fun j => (lookA S (chM ds S j p)).getD 0
section
variable {P : Program} {w : World} {K : PySem.W.Frag} {mg : Str → Option Value} {base : Heap}
def spRin (P : Program) (w : World) (K : PySem.W.Frag) : Sp := fun vs H Q _ => ∃ v dt ds S, vs = [v, .ref dt] ∧ DsV K H ds v ∧ GoodDs ds ∧ DicW P w K H dt (IM S) ∧ (S.map (·.1)).Nodup ∧ S.length ≤ 1000 ∧ (∀ k ∈ S.map (·.1), GoodP k) ∧ StepOk ds S ∧ HasCyc ds S ∧
  ∀ H' p rs, Gx H H' → H p = none → SqT K H' p (rs.map V.int) → RingM ds S rs → Q (.ref p) H'
theorem mem_look {S : Num} {p : PK} (h : p ∈ S.map (·.1)) : ∃ i, lookA S p = some i := by
  have := lookA_mem.mpr h
  exact Option.isSome_iff_exists.mp this
/-- differences[steps[point]][1] -/
theorem nx_ok {H : Hp} {ds : List Dif} {S : Num} {v x : V} {dt : Addr} {p : PK} {i : Nat} {σ : L2.St} {Q : VK} (h0 : σ[0]? = some (some v)) (h1 : σ[1]? = some (some (.ref dt))) (hi : σ[i]? = some (some x)) (hv : DsV K H ds v) (hS : DicR P w K H dt (IM S))
    (ok : StepOk ds S) (hp : p ∈ S.map (·.1)) (hx : KyV K H p x) (q : ∀ y, KyV K H (nxM ds S p) y → Q y H) : tOp (rIxT K) (tOp (rIxT K) (tVar 0) (tOp (Mk.rIxD P w K) (tVar 1) (tVar i))) (tC (V.int 1)) σ H Q := by
  obtain ⟨a, vs, rfl, hT, pr⟩ := hv
  obtain ⟨j, hj⟩ := mem_look hp
  obtain ⟨j0, jl⟩ := ok p j hj
  obtain ⟨b, hb, r⟩ := pair_at' pr (List.getElem?_eq_getElem jl)
  obtain ⟨t, y1, y2, rfl, h3, k1, k2⟩ := r
  refine ⟨_, h0, _, h1, _, hi, dt, _, p, _, rfl, hS, hx, by rw [VM_look, hj]; rfl, a, vs, j, _, rfl, rfl, hT, ?_, t, _, 1, _, rfl, rfl, h3, atI_nat (j := 1) rfl, q _ ?_⟩
  · have := atI_nat hb
    rwa [Int.toNat_of_nonneg j0] at this
  · unfold nxM
    rw [hj]
    dsimp only
    rw [List.getElem?_eq_getElem jl]
    exact k2
theorem least_per {ds : List Dif} {S : Num} {p : PK} : ∀ m : Nat, 0 < m → chM ds S m p = p → ∃ r, 0 < r ∧ chM ds S r p = p ∧ ∀ j, 0 < j → j < r → chM ds S j p ≠ p := by
  intro m
  induction m using Nat.strongRecOn with
  | ind m ih =>
    intro h0 h1
    by_cases h : ∃ j, 0 < j ∧ j < m ∧ chM ds S j p = p
    · obtain ⟨j, a, b, c⟩ := h
      exact ih j b a c
    · exact ⟨m, h0, h1, fun j a b c => h ⟨j, a, b, c⟩⟩
theorem chM_add {ds : List Dif} {S : Num} {p : PK} {b : Nat} : ∀ a, chM ds S (a + b) p = chM ds S a (chM ds S b p)
  | 0 => by rw [Nat.zero_add]; rfl
  | a + 1 => by rw [Nat.add_right_comm, chM, chM, chM_add a]
theorem per_len {ds : List Dif} {S : Num} {p : PK} {r : Nat} (rper : chM ds S r p = p) (rmin : ∀ j, 0 < j → j < r → chM ds S j p ≠ p) (hin : ∀ n, chM ds S n p ∈ S.map (·.1)) : r ≤ S.length := by
  have nd : ((List.range r).map fun n => chM ds S n p).Nodup := by
    rw [List.nodup_iff_pairwise_ne, List.pairwise_map, List.pairwise_iff_getElem]
    intro i j hi hj hij e
    rw [List.length_range] at hi hj
    rw [List.getElem_range, List.getElem_range] at e
    refine rmin (r - j + i) (by omega) (by omega) ?_
    rw [chM_add, e, ← chM_add, show r - j + j = r by omega]
    exact rper
  have := nodup_len nd (r := S.map (·.1)) fun x hx => by
    obtain ⟨n, _, rfl⟩ := List.mem_map.mp hx
    exact hin n
  simpa using this
theorem per_mod {ds : List Dif} {S : Num} {p : PK} {m : Nat} (hm : chM ds S m p = p) : ∀ k, chM ds S (m * k) p = p
  | 0 => rfl
  | k + 1 => by rw [Nat.mul_succ, chM_add, hm, per_mod hm k]
def rin2 (P : Program) (w : World) (K : PySem.W.Frag) : TS := tSeq (tPar 5 6 (tCons (tLst tNil) (tCons (tVar 2) tNil)))
  (tSeq (tWhile (tOr (tTest (tOp rEq (tCB (fun xs H Q => ∃ p, xs = [V.ref p] ∧ ∃ x, (SqL K H p x ∨ SqT K H p x) ∧ Q (V.int ↑x.length) H) (tCons (tVar 5) tNil)) (tC (V.int 0)))) (tTest (tOp (rNeD K) (tVar 6) (tVar 2))))
      (tSeq (tDrop (tBM K "list" rAppend (tVar 5) (tCons (tOp (Mk.rIxD P w K) (tVar 1) (tVar 6)) tNil)))
        (tAsg (tOp (rIxT K) (tOp (rIxT K) (tVar 0) (tOp (Mk.rIxD P w K) (tVar 1) (tVar 6))) (tC (V.int 1))) (gName 6))))
    (tRet (tCB (fun xs H Q => ∃ p, xs = [V.ref p] ∧ ∃ x, (SqL K H p x ∧ ∀ (l : Addr), H l = none → Q (V.ref l) (upd H l (HO.tup x))) ∨ SqT K H p x ∧ Q (V.ref p) H) (tCons (tVar 5) tNil))))
theorem rin2_ok {H : Hp} {ds : List Dif} {S : Num} {v x2 : V} {x3 x4 x5 x6 : Option V} {dt : Addr} {p : PK} {nx : L2.St → Hp → Prop} {Q : VK} (hv : DsV K H ds v) (hS : DicW P w K H dt (IM S)) (lS : S.length ≤ 1000) (ok : StepOk ds S) (gS : ∀ k ∈ S.map (·.1), GoodP k)
    (hx : KyV K H p x2) {m0 : Nat} (hm0 : 0 < m0) (hper : chM ds S m0 p = p) (hin : ∀ n, chM ds S n p ∈ S.map (·.1))
    (q : ∀ H' r rs, Gx H H' → H r = none → SqT K H' r (rs.map V.int) → RingM ds S rs → Q (.ref r) H') : rin2 P w K { nx := nx, rt := Q } [some v, some (.ref dt), some x2, x3, x4, x5, x6] H := by
  obtain ⟨r, r0, rper, rmin⟩ := least_per m0 hm0 hper
  have lr : r ≤ 1000 := Nat.le_trans (per_len rper rmin hin) lS
  unfold rin2
  simp only [cxOf, Cx.nox, L2.start, tRet, tAndV, tOrV, tNotV, tCB, tCons, tNil, tVar, tC, tOp, tUn, tChain, tIfS, tTest, tSeq, tNext, tB, tOr, tAnd, tNot, tAsg, tDrop, tCall, rI0, rI, rU, List.cons_append, List.nil_append, List.append_nil, List.map_cons, List.map_nil, List.length_cons, List.length_nil, Nat.reduceAdd, Nat.reduceSub, List.replicate_succ, List.replicate_zero, List.getElem?_cons_zero, List.getElem?_cons_succ, Option.some.injEq, exists_eq_left, exists_eq_left', exists_eq_right, V.int.injEq, V.bl.injEq, V.str.injEq, V.ref.injEq, true_and, and_true, exists_and_left, if_true, if_false, gTup, gCons, gNil, gSub, gName, Mk.rSetD, List.set_cons_zero, List.set_cons_succ, Bool.false_eq_true, List.cons.injEq, Bool.not_true, Bool.not_false, eq_self, decide_true, decide_false, c3, tPar, tLst, List.set_cons_zero]
  refine ⟨Nat.zero_le _, fun F hF => ?_⟩
  refine ⟨_, _, ⟨rfl, rfl⟩, ?_⟩
  refine ⟨fun k σ H' => ∃ j x6, k = r - j ∧ j ≤ r ∧ σ = [some v, some (.ref dt), some x2, x3, x4, some (.ref F), some x6] ∧ Gx H H' ∧ H' F = some (.lst (((List.range j).map fun j => (lookA S (chM ds S j p)).getD 0).map V.int)) ∧ KyV K H' (chM ds S j p) x6,
    ⟨r, 0, x2, rfl, Nat.zero_le _, rfl, .new hF, upd_same, hx.keep (Gx.new hF).tk⟩, fun k σ H1 hW => ?_⟩
  obtain ⟨j, y6, rfl, jr, rfl, g, hFl, hy⟩ := hW
  have lj : (((List.range j).map fun j => (lookA S (chM ds S j p)).getD 0).map V.int).length = j := by simp
  have cond : ∀ {Qb : Bool → Hp → Prop}, Qb (decide (j = 0) || !decide (chM ds S j p = p)) H1 → (tOr (tTest (tOp rEq (tCB (fun xs H Q => ∃ p, xs = [V.ref p] ∧ ∃ x, (SqL K H p x ∨ SqT K H p x) ∧ Q (V.int ↑x.length) H) (tCons (tVar 5) tNil)) (tC (V.int 0)))) (tTest (tOp (rNeD K) (tVar 6) (tVar 2))))
      [some v, some (.ref dt), some x2, x3, x4, some (.ref F), some y6] H1 Qb := by
    intro Qb hq
    refine ⟨_, rfl, F, rfl, _, .inl (.inl (.inl hFl)), rfl, _, rfl, ?_⟩
    rw [lj]
    by_cases j0 : j = 0
    · subst j0
      exact hq
    · rw [decide_eq_false j0, Bool.false_or] at hq
      rw [show decide (V.int ((j : Nat) : Int) = V.int 0) = false from decide_eq_false (fun z => by cases z; exact j0 rfl)]
      refine ⟨_, rfl, _, rfl, ptD (chM ds S j p), ptD p, hy.dp, (hx.keep g.tk).dp, shaped_pt (gS _ (hin j)), shaped_pt (gS _ (hin 0)), _, rfl, ?_⟩
      rw [eqv_pt]
      exact hq
  refine cond ?_
  by_cases hj : j = 0 ∨ chM ds S j p ≠ p
  · have jlt : j < r := by
      rcases Nat.lt_or_ge j r with h | h
      · exact h
      · have e : j = r := by omega
        subst e
        rcases hj with h | h
        · omega
        · exact absurd rper h
    rw [show (decide (j = 0) || !decide (chM ds S j p = p)) = true by rcases hj with h | h <;> simp [h]]
    obtain ⟨i, hi⟩ := mem_look (hin j)
    refine ⟨fun σ' H' => ∃ y6, σ' = [some v, some (.ref dt), some x2, x3, x4, some (.ref F), some y6] ∧ Gx H H' ∧ H' F = some (.lst (((List.range (j + 1)).map fun j => (lookA S (chM ds S j p)).getD 0).map V.int)) ∧ KyV K H' (chM ds S (j + 1) p) y6,
      fun σ' H' ⟨y6, a, b, c, d⟩ => ⟨r - (j + 1), by omega, j + 1, y6, rfl, jlt, a, b, c, d⟩, ?_⟩
    refine ⟨.ref F, rfl, .inl ⟨rfl, _, .inl (.inl hFl)⟩, _, rfl, _, rfl, dt, _, _, _, rfl, (g.dicW hS).r, hy, by rw [VM_look, hi]; rfl, F, _, _, rfl, rfl, hFl, ?_, ?_⟩
    · rw [lj]; exact line_lt (m := 1000) (by omega)
    · have g2 : Gx H (upd H1 F (.lst ((((List.range j).map fun j => (lookA S (chM ds S j p)).getD 0).map V.int) ++ [.int i]))) := g.mut hF
      refine nx_ok (i := 6) rfl rfl rfl (hv.keep g2.tk) (g2.dicW hS).r ok (hin j) (hy.keep (Tk.mut (by rw [hFl]; exact True.intro))) fun y hyy => ?_
      refine ⟨y, rfl, g2, ?_, hyy⟩
      rw [upd_same, List.range_succ, List.map_append, List.map_append]
      simp [hi]
  · obtain ⟨h1, h2⟩ := not_or.mp hj
    have h2 : chM ds S j p = p := Classical.not_not.mp h2
    have e : j = r := by
      rcases Nat.lt_or_ge j r with h | h
      · exact absurd h2 (rmin j (by omega) h)
      · omega
    subst e
    rw [show (decide (j = 0) || !decide (chM ds S j p = p)) = false by simp [h1, h2]]
    refine ⟨_, rfl, F, rfl, _, .inl ⟨.inl (.inl hFl), fun l hl => q _ l _ (g.trans (.new hl)) (g.free hl) (.inl (.inl upd_same)) ⟨p, j, r0, rper, hin, rfl⟩⟩⟩
theorem C_ring_in (T : Tops mg) (D : Def K mg "ring_in" s_ring_in ["differences", "steps"]) : Cal P w K mg base "ring_in" 1 ["differences", "steps"] (spRin P w K) := by
  refine Cal.of D sc_ring_in (fun vs H Q E h => ?_) (fun f cdv A outer s H vs Q E hr h => ?_)
  · obtain ⟨v, dn, ds, S, rfl, _⟩ := h; rfl
  · obtain ⟨v, dt, ds, S, rfl, hv, hg, hS, hnd, lS, gS, ok, cyc, q⟩ := h
    have hu := hu_of hr
    have h0 := hr.units0
    have h64 := hr.units
    refine ⟨_, (pss_cons (ps_set (i := 2) sc_ring_in.nd rfl (Or.inl rfl) (pe_nextIter rfl (pv 1) (by rfl) T.b_next (by rfl) T.b_iter))
      (pss_cons (ps_lock (ps_for PassesOwn.never rfl (pi_dic (pv 1)) (pg_name (i := 3) sc_ring_in.nd rfl (Or.inl rfl))
      (pss_cons (ps_par rfl sc_ring_in.nd (i := 4) (j := 2) rfl rfl (by decide) rfl rfl (pa_cons (pe_toP pe_dnewK) (pa_cons (pv 3) pa_nil)) (by rfl))
      (pss_cons (ps_while PassesOwn.never (PW.pt (pw_and (pt_cmpR (op_inD' hu (P := P) (w := w) (K := K) rfl rfl rfl) (pv 2) (pv 1) (by rfl)) (pw_and1 (pt_cmpR (op_notInD' hu (P := P) (w := w) (K := K) rfl rfl rfl) (pv 2) (pv 4) (by rfl))))) (pss_cons (ps_asg pe_bl (pg_sub (pv 4) (pv 2) (set_dic hu)))
      (pss_one (ps_set (i := 2) sc_ring_in.nd rfl (Or.inl rfl) (pe_ix (ix_tup' (K := K) rfl) (pe_ix (ix_tup' (K := K) rfl) (pv 0) (pe_ix (ix_dic' hu (P := P) (w := w) (K := K) rfl rfl rfl) (pv 1) (pv 2) (fun _ _ => rfl)) (fun _ _ => rfl)) pe_int (fun _ _ => rfl))))))
      (pss_one (ps_if (pt_cmpR (op_inD' hu (P := P) (w := w) (K := K) rfl rfl rfl) (pv 2) (pv 4) (by rfl)) (pss_one ps_break) pss_nil))))))
      (pss_cons (ps_par rfl sc_ring_in.nd (i := 5) (j := 6) rfl rfl (by decide) rfl rfl (pa_cons (pe_lst pa_nil) (pa_cons (pv 2) pa_nil)) (by rfl))
      (pss_cons (ps_while PassesOwn.never (PW.pt (pw_or (pt_cmpR op_eq (pe_callB call_len_seq (by rfl) T.b_len (by decide +kernel) (pa_cons (pv 5) pa_nil)) pe_int (nomark _)) (pw_or1 (pt_cmpR (op_neD h64) (pv 6) (pv 2) (nomark _))))) (pss_cons (ps_expr (pe_bm PySem.F.plainAttrs_list PySem.F.slot_list_append PySem.F.type_list_append mt_append (pv 5) (pa_cons (pe_ix (ix_dic' hu (P := P) (w := w) (K := K) rfl rfl rfl) (pv 1) (pv 6) (fun _ _ => rfl)) pa_nil)))
      (pss_one (ps_set (i := 6) sc_ring_in.nd rfl (Or.inl rfl) (pe_ix (ix_tup' (K := K) rfl) (pe_ix (ix_tup' (K := K) rfl) (pv 0) (pe_ix (ix_dic' hu (P := P) (w := w) (K := K) rfl rfl rfl) (pv 1) (pv 6) (fun _ _ => rfl)) (fun _ _ => rfl)) pe_int (fun _ _ => rfl))))))
      (pss_one (ps_ret (pe_callTy call_tuple_of (by rfl) T.b_tuple (by decide +kernel) (pa_cons (pv 5) pa_nil)))))))), ?_⟩
    simp only [cxOf, Cx.nox, L2.start, tRet, tAndV, tOrV, tNotV, tCB, tCons, tNil, tVar, tC, tOp, tUn, tChain, tIfS, tTest, tSeq, tNext, tB, tOr, tAnd, tNot, tAsg, tDrop, tCall, rI0, rI, rU, List.cons_append, List.nil_append, List.append_nil, List.map_cons, List.map_nil, List.length_cons, List.length_nil, Nat.reduceAdd, Nat.reduceSub, List.replicate_succ, List.replicate_zero, List.getElem?_cons_zero, List.getElem?_cons_succ, Option.some.injEq, exists_eq_left, exists_eq_left', exists_eq_right, V.int.injEq, V.bl.injEq, V.str.injEq, V.ref.injEq, true_and, and_true, exists_and_left, if_true, if_false, gTup, gCons, gNil, gSub, gName, Mk.rSetD, List.set_cons_zero, List.set_cons_succ, Bool.false_eq_true, List.cons.injEq, Bool.not_true, Bool.not_false, eq_self, decide_true, decide_false, c3, N_ring_in, tNextIter]
    refine ⟨_, hS.r, fun pt _ => ?_⟩
    obtain ⟨xs, hx, pe⟩ := id hS
    refine ⟨dt, _, hx, True.intro, fun od => ?_⟩
    have tkl : Tk K H (upd H dt (.frz od (.ext (rawD P w dt xs)))) := Tk.mut hS.mut
    generalize hHL : upd H dt (.frz od (.ext (rawD P w dt xs))) = HL at *
    have hdl : HL dt = some (.frz od (.ext (rawD P w dt xs))) := by rw [← hHL]; exact upd_same
    have peL := pe.keep tkl
    have dR : ∀ {H'}, Gx HL H' → DicR P w K H' dt (IM S) := fun g => ⟨xs, .inr ⟨od, g _ _ hdl⟩, peL.keep g.tk⟩
    refine ⟨_, rfl, dt, od, xs, IM S, rfl, hdl, peL, for_it walk_dic (fun i σ H' => ∃ x2 x3 x4, σ = [some v, some (.ref dt), x2, x3, x4, none, none] ∧ Gx HL H' ∧ ∀ j k z, j < i → (IM S)[j]? = some (k, z) → ∃ n, chM ds S n k ∉ S.map (·.1))
      ⟨_, _, _, rfl, .refl, fun _ _ _ h => absurd h (Nat.not_lt_zero _)⟩ (fun i σ H' _ h => ?_) (fun i x σ H1 H2 hi hP hY => ?_) (fun σ H1 hP => ?_)⟩
    · obtain ⟨_, _, _, _, g, _⟩ := h
      exact ⟨g _ _ hdl, peL.keep g.tk⟩
    · obtain ⟨rfl, st, z, hst, kst⟩ := hY
      obtain ⟨x2, x3, x4, rfl, g, hno⟩ := hP
      intro sd hsd
      refine ⟨sd, [], rfl, upd_same, fun u hsd0 => ?_⟩
      rw [upd_upd] at hsd0 ⊢
      refine ⟨_, rfl, _, _, rfl, ?_⟩
      have hsl : HL sd = none := g.free hsd
      have hvL : DsV K HL ds v := hv.keep tkl
      refine ⟨fun m σ H' => ∃ j y, m = 1001 - j ∧ σ = [some v, some (.ref dt), some y, some x, some (.ref sd), none, none] ∧ Gx HL H' ∧ KyV K H' (chM ds S j st) y ∧ DicW P w K H' sd ((List.range j).map fun n => (chM ds S n st, V.bl true)) ∧
          ((List.range j).map fun n => chM ds S n st).Nodup ∧ (∀ n, n < j → chM ds S n st ∈ S.map (·.1)),
        ⟨1001, 0, x, rfl, rfl, g.mut hsl, kst.keep (Gx.new hsd).tk, hsd0, List.nodup_nil, fun _ h => absurd h (Nat.not_lt_zero _)⟩, fun m σ H3 hW => ?_⟩
      obtain ⟨j, y, rfl, rfl, g3, hy, hsd3, nd, hin⟩ := hW
      have jl : j ≤ 1000 := by
        have := nodup_len nd (r := S.map (·.1)) fun a ha => by
          obtain ⟨n, hn, rfl⟩ := List.mem_map.mp ha
          exact hin n (List.mem_range.mp hn)
        simp at this
        omega
      have seen_iff : (valV ((List.range j).map fun n => (chM ds S n st, V.bl true)) (chM ds S j st)).isSome = true ↔ ∃ n, n < j ∧ chM ds S n st = chM ds S j st := by
        rw [← valV_any, List.any_map, List.any_eq_true]
        exact ⟨fun ⟨n, a, b⟩ => ⟨n, List.mem_range.mp a, by simpa using b⟩, fun ⟨n, a, b⟩ => ⟨n, List.mem_range.mpr a, by simpa using b⟩⟩
      have in_iff : (valV (IM S) (chM ds S j st)).isSome = true ↔ chM ds S j st ∈ S.map (·.1) := by
        rw [VM_look, Option.isSome_map, lookA_mem]
      refine ⟨_, rfl, _, rfl, dt, _, _, rfl, dR g3, hy, _, rfl, ?_⟩
      dsimp only
      by_cases ck : chM ds S j st ∈ S.map (·.1)
      · rw [if_pos (in_iff.mpr ck)]
        refine ⟨_, rfl, _, rfl, sd, _, _, rfl, hsd3.r, hy, _, rfl, ?_⟩
        by_cases cs : ∃ n, n < j ∧ chM ds S n st = chM ds S j st
        · rw [seen_iff.mpr cs]
          refine ⟨_, rfl, _, rfl, sd, _, _, rfl, hsd3.r, hy, _, rfl, ?_⟩
          rw [seen_iff.mpr cs]
          obtain ⟨n, nj, en⟩ := cs
          have gL : Gx H (upd H3 dt (.ext (rawD P w dt xs))) := by rw [← hHL] at g3; exact g3.lock hx
          have per : chM ds S (j - n) (chM ds S n st) = chM ds S n st := by rw [← chM_add, show j - n + n = j by omega, en]
          have hy2 : KyV K (upd H3 dt (.ext (rawD P w dt xs))) (chM ds S n st) y := by
            rw [en]
            refine hy.keep fun b zs hb => ?_
            rcases hb with (hb | ⟨o, hb⟩) | hb
            · exact .inl (.inl (by rw [upd_ne (fun z => by rw [z, g3 _ _ hdl] at hb; cases hb)]; exact hb))
            · exact .inl (.inr ⟨o, by rw [upd_ne (fun z => by rw [z, g3 _ _ hdl] at hb; cases hb)]; exact hb⟩)
            · exact .inr hb
          refine ⟨g3 _ _ hdl, rin2_ok (hv.keep gL.tk) (gL.dicW hS) lS ok gS hy2 (m0 := j - n) (by omega) per (fun k => ?_) fun H' r rs g' hr' hs' rm => q _ _ _ (gL.trans g') (gL.free hr') hs' rm⟩
          have e1 : chM ds S k (chM ds S n st) = chM ds S (k % (j - n) + n) st := by
            rw [chM_add, ← Nat.mod_add_div k (j - n), chM_add, per_mod per, Nat.mod_add_div]
          rw [e1]
          have := Nat.mod_lt k (show 0 < j - n by omega)
          exact hin _ (by omega)
        · have ns : (valV ((List.range j).map fun n => (chM ds S n st, V.bl true)) (chM ds S j st)).isSome = false := by
            rw [Bool.eq_false_iff]
            exact fun z => cs (seen_iff.mp z)
          rw [ns]
          refine ⟨fun σ' H' => ∃ y, σ' = [some v, some (.ref dt), some y, some x, some (.ref sd), none, none] ∧ Gx HL H' ∧ KyV K H' (chM ds S (j + 1) st) y ∧ DicW P w K H' sd ((List.range (j + 1)).map fun n => (chM ds S n st, V.bl true)) ∧
              ((List.range (j + 1)).map fun n => chM ds S n st).Nodup ∧ (∀ n, n < j + 1 → chM ds S n st ∈ S.map (·.1)), fun σ' H' ⟨y, a, b, c, d, e, f⟩ => ⟨1001 - (j + 1), by omega, j + 1, y, rfl, a, b, c, d, e, f⟩, ?_⟩
          refine ⟨_, rfl, _, rfl, sd, _, _, rfl, hsd3, hy, line_lt (m := 1000) (by simp; exact jl), fun u2 h2 => ?_⟩
          have tk2 : Tk K H3 (upd H3 sd u2) := Tk.mut hsd3.mut
          have g4 : Gx HL (upd H3 sd u2) := g3.mut hsl
          refine nx_ok (i := 2) rfl rfl rfl (hvL.keep g4.tk) (dR g4) ok ck (hy.keep tk2) fun y2 hy2 => ?_
          have er : (List.range (j + 1)).map (fun n => chM ds S n st) = (List.range j).map (fun n => chM ds S n st) ++ [chM ds S j st] := by rw [List.range_succ, List.map_append]; rfl
          refine ⟨y2, rfl, g4, hy2, ?_, ?_, fun n hn => ?_⟩
          · rw [putK_new] at h2
            · rw [List.range_succ, List.map_append]; exact h2
            · rw [List.map_map]
              intro z
              obtain ⟨n, a, b⟩ := List.mem_map.mp z
              exact cs ⟨n, List.mem_range.mp a, b⟩
          · rw [er, List.nodup_append]
            refine ⟨nd, by simp, fun a ha b hb => ?_⟩
            rw [List.mem_singleton] at hb
            obtain ⟨n, hn, rfl⟩ := List.mem_map.mp ha
            exact fun z => cs ⟨n, List.mem_range.mp hn, z.trans hb⟩
          · rcases Nat.lt_or_ge n j with h | h
            · exact hin n h
            · have : n = j := by omega
              rw [this]; exact ck
      · rw [if_neg (fun z => ck (in_iff.mp z))]
        refine ⟨_, rfl, _, rfl, sd, _, _, rfl, hsd3.r, hy, _, rfl, ?_⟩
        have ns : (valV ((List.range j).map fun n => (chM ds S n st, V.bl true)) (chM ds S j st)).isSome = false := by
          rw [Bool.eq_false_iff]
          intro z
          obtain ⟨n, a, b⟩ := seen_iff.mp z
          exact ck (b ▸ hin n a)
        rw [ns]
        refine ⟨_, _, _, rfl, g3, fun a k z ha hk => ?_⟩
        rcases Nat.lt_or_ge a i with h | h
        · exact hno a k z h hk
        · have : a = i := by omega
          subst this
          rw [hst] at hk
          cases hk
          exact ⟨j, ck⟩
    · obtain ⟨x2, x3, x4, rfl, g, hno⟩ := hP
      obtain ⟨st, h1, h2⟩ := cyc
      obtain ⟨j, hj⟩ := mem_look h1
      exfalso
      obtain ⟨kv, hk, e1⟩ := List.mem_map.mp h1
      obtain ⟨n, hn⟩ := List.mem_iff_getElem?.mp hk
      obtain ⟨m, hm⟩ := hno n st (.int kv.2) (by have := (List.getElem?_eq_some_iff.mp hn).1; rw [VM_len]; exact this) (by rw [IM, VM, List.getElem?_map, hn, ← e1]; rfl)
      exact hm (h2 m)
end
end Mk


set_option Elab.async false
set_option linter.all false
set_option maxRecDepth 100000
set_option maxHeartbeats 400000
/-! the plain law of rounds: steps, last rounds, rings -/
namespace Mk
open PySem PySem.Spec PyProof.Rows L2
/-! ### a round that changes nothing -/
theorem stepM_true {N S : Num} {i : Int} {d : Dif} : (stepM (N, S, true) i d).2.2 = true := by
  unfold stepM
  split
  · rfl
  · split
    · rfl
    · split <;> rfl
theorem roundM_true {i : Nat} : ∀ {ds : List Dif} {N S : Num}, (roundM (N, S, true) i ds).2.2 = true := by
  intro ds
  induction ds generalizing i with
  | nil => intros; rfl
  | cons d ds ih =>
    intro N S
    rw [roundM]
    have := stepM_true (N := N) (S := S) (i := i) (d := d)
    rcases h : stepM (N, S, true) i d with ⟨N', S', b'⟩
    rw [h] at this
    cases this
    exact ih
/-- the row is right by the numbers -/
def Rel (N : Num) (d : Dif) : Prop := ∀ y, lookA N d.2.1 = some y → ∃ x, lookA N d.1 = some x ∧ x ≤ y + d.2.2
theorem stepM_cases (N S : Num) (b : Bool) (i : Int) (d : Dif) : (stepM (N, S, b) i d = (N, S, b) ∧ Rel N d) ∨
    ∃ y, lookA N d.2.1 = some y ∧ (∀ x, lookA N d.1 = some x → y + d.2.2 < x) ∧ stepM (N, S, b) i d = (putA N d.1 (y + d.2.2), putA S d.1 i, true) := by
  rcases h1 : lookA N d.2.1 with _ | y
  · exact .inl ⟨stepM_none h1, fun y h => by rw [h1] at h; cases h⟩
  · rcases h2 : lookA N d.1 with _ | x
    · exact .inr ⟨y, rfl, nofun, stepM_new h1 h2⟩
    · by_cases h3 : y + d.2.2 < x
      · exact .inr ⟨y, rfl, fun z h => by cases h; exact h3, stepM_lt h1 h2 h3⟩
      · refine .inl ⟨stepM_ge h1 h2 h3, fun z h => ⟨x, h2, ?_⟩⟩
        rw [h1] at h
        cases h
        omega
theorem roundM_false {i : Nat} : ∀ {ds : List Dif} {N S : Num}, (roundM (N, S, false) i ds).2.2 = false → (roundM (N, S, false) i ds).1 = N ∧ (roundM (N, S, false) i ds).2.1 = S ∧ ∀ d ∈ ds, Rel N d := by
  intro ds
  induction ds generalizing i with
  | nil => intro N S _; exact ⟨rfl, rfl, fun _ h => by cases h⟩
  | cons d ds ih =>
    intro N S h
    rw [roundM] at h ⊢
    rcases stepM_cases N S false i d with ⟨e, r⟩ | ⟨y, h1, h2, e⟩
    · rw [e] at h ⊢
      obtain ⟨a, b, c⟩ := ih h
      exact ⟨a, b, fun x hx => by rcases List.mem_cons.mp hx with rfl | hx; exact r; exact c x hx⟩
    · rw [e, roundM_true] at h
      cases h
/-! ### the last rounds -/
structure Iv (ds : List Dif) (N S : Num) (b : Bool) (L : PK → Nat) (r i : Nat) : Prop where
  step : ∀ p j, lookA S p = some j → ∃ d, 0 ≤ j ∧ ds[j.toNat]? = some d ∧ d.1 = p ∧ (∃ x y, lookA N p = some x ∧ lookA N d.2.1 = some y ∧ y + d.2.2 ≤ x) ∧ L p ≤ L d.2.1 + 1
  le : ∀ p, L p ≤ r
  key : ∀ p, 1 ≤ L p → p ∈ S.map (·.1)
  old : ∀ t d, ds[t]? = some d → Rel N d ∨ (if t < i then r ≤ L d.2.1 else r ≤ L d.2.1 + 1)
  nd : (S.map (·.1)).Nodup
  ch : b = true → ∃ k, L k = r
theorem Iv.next {ds : List Dif} {N S : Num} {b : Bool} {L : PK → Nat} {r i : Nat} {d : Dif} (I : Iv ds N S b L r i) (hr : 1 ≤ r) (hd : ds[i]? = some d) : ∃ L', Iv ds (stepM (N, S, b) i d).1 (stepM (N, S, b) i d).2.1 (stepM (N, S, b) i d).2.2 L' r (i + 1) := by
  rcases stepM_cases N S b i d with ⟨e, rl⟩ | ⟨y, h1, h2, e⟩
  · rw [e]
    refine ⟨L, I.step, I.le, I.key, fun t d' ht => ?_, I.nd, I.ch⟩
    by_cases q : t = i
    · subst q
      rw [hd] at ht
      cases ht
      exact .inl rl
    · rcases I.old t d' ht with h | h
      · exact .inl h
      · refine .inr ?_
        by_cases c : t < i
        · rw [if_pos c] at h; rw [if_pos (by omega)]; exact h
        · rw [if_neg c] at h; rw [if_neg (by omega)]; exact h
  · rw [e]
    -- the changed point
    have nl : r ≤ L d.2.1 + 1 := by
      rcases I.old i d hd with h | h
      · obtain ⟨x, hx, hle⟩ := h y h1
        have := h2 x hx
        omega
      · rw [if_neg (Nat.lt_irrefl i)] at h; exact h
    have lk : ∀ p, lookA (putA N d.1 (y + d.2.2)) p = if p = d.1 then some (y + d.2.2) else lookA N p := fun p => lookA_put
    have dec : ∀ p x, lookA N p = some x → ∃ x', lookA (putA N d.1 (y + d.2.2)) p = some x' ∧ x' ≤ x := fun p x hx => by
      rw [lk]
      by_cases q : p = d.1
      · rw [if_pos q]
        subst q
        exact ⟨_, rfl, Int.le_of_lt (h2 x hx)⟩
      · rw [if_neg q]; exact ⟨x, hx, Int.le_refl _⟩
    have Lge : ∀ p, L p ≤ (if p = d.1 then r else L p) := fun p => by
      by_cases q : p = d.1
      · rw [if_pos q]; exact I.le p
      · rw [if_neg q]; exact Nat.le_refl _
    refine ⟨fun p => if p = d.1 then r else L p, fun p j hj => ?_, fun p => ?_, fun p hp => ?_, fun t d' ht => ?_, putA_nodup I.nd, fun _ => ⟨d.1, if_pos rfl⟩⟩
    · rw [lookA_put] at hj
      by_cases q : p = d.1
      · rw [if_pos q] at hj
        cases hj
        subst q
        obtain ⟨y', hy', hle⟩ := dec d.2.1 y h1
        refine ⟨d, Int.natCast_nonneg _, by rw [Int.toNat_natCast]; exact hd, rfl, ⟨_, y', by rw [lk, if_pos rfl], hy', by omega⟩, ?_⟩
        rw [if_pos rfl]
        exact Nat.le_trans nl (Nat.succ_le_succ (Lge _))
      · rw [if_neg q] at hj
        obtain ⟨d', j0, hd', e1, ⟨x, y', hx, hy', hle⟩, hL⟩ := I.step p j hj
        obtain ⟨y2, hy2, hle2⟩ := dec _ _ hy'
        refine ⟨d', j0, hd', e1, ⟨x, y2, by rw [lk, if_neg q]; exact hx, hy2, by omega⟩, ?_⟩
        rw [if_neg q]
        exact Nat.le_trans hL (Nat.succ_le_succ (Lge _))
    · by_cases q : p = d.1
      · rw [if_pos q]; exact Nat.le_refl _
      · rw [if_neg q]; exact I.le p
    · rw [putA_mem]
      by_cases q : p = d.1
      · exact .inl q
      · rw [if_neg q] at hp; exact .inr (I.key p hp)
    · by_cases q : d'.2.1 = d.1
      · refine .inr ?_
        rw [if_pos q]
        by_cases c : t < i + 1
        · rw [if_pos c]; exact Nat.le_refl _
        · rw [if_neg c]; exact Nat.le_succ _
      · rw [if_neg q]
        by_cases ti : t = i
        · subst ti
          rw [hd] at ht
          cases ht
          refine .inl fun y' hy' => ?_
          rw [lk, if_neg q, h1] at hy'
          cases hy'
          exact ⟨_, by rw [lk, if_pos rfl], Int.le_refl _⟩
        · rcases I.old t d' ht with h | h
          · refine .inl fun y' hy' => ?_
            rw [lk, if_neg q] at hy'
            obtain ⟨x, hx, hle⟩ := h y' hy'
            obtain ⟨x', hx', hle'⟩ := dec _ _ hx
            exact ⟨x', hx', by omega⟩
          · refine .inr ?_
            by_cases c : t < i
            · rw [if_pos c] at h; rw [if_pos (by omega)]; exact h
            · rw [if_neg c] at h; rw [if_neg (by omega)]; exact h
theorem Iv.round {ds : List Dif} {r : Nat} (hr : 1 ≤ r) : ∀ (l : List Dif) (i : Nat) (N S : Num) (b : Bool) (L : PK → Nat), Iv ds N S b L r i → (∀ t, l[t]? = ds[i + t]?) →
    ∃ L', Iv ds (roundM (N, S, b) i l).1 (roundM (N, S, b) i l).2.1 (roundM (N, S, b) i l).2.2 L' r (i + l.length)
  | [], i, N, S, b, L, I, _ => ⟨L, I⟩
  | d :: l, i, N, S, b, L, I, h => by
    have hd : ds[i]? = some d := by have := h 0; simpa using this.symm
    obtain ⟨L', I'⟩ := I.next hr hd
    rw [roundM]
    obtain ⟨L2, I2⟩ := Iv.round hr l (i + 1) _ _ _ L' I' fun t => by
      have := h (t + 1)
      rw [List.getElem?_cons_succ] at this
      rw [this]; congr 1; omega
    refine ⟨L2, ?_⟩
    rw [List.length_cons, show i + (l.length + 1) = i + 1 + l.length by omega]
    exact I2
theorem Iv.improved {ds : List Dif} {N S : Num} {L : PK → Nat} {r : Nat} (hr : 1 ≤ r) (I : Iv ds N S false L r 0) : ∃ L', Iv ds (improvedM ds N S).1 (improvedM ds N S).2.1 (improvedM ds N S).2.2 L' r ds.length := by
  obtain ⟨L', h⟩ := Iv.round hr ds 0 N S false L I fun t => by rw [Nat.zero_add]
  rw [Nat.zero_add] at h
  exact ⟨L', h⟩
theorem Iv.turn {ds : List Dif} {N S : Num} {b : Bool} {L : PK → Nat} {r : Nat} (I : Iv ds N S b L r ds.length) : Iv ds N S false L (r + 1) 0 where
  step := I.step
  le p := Nat.le_succ_of_le (I.le p)
  key := I.key
  old t d ht := by
    rcases I.old t d ht with h | h
    · exact .inl h
    · rw [if_pos (List.getElem?_eq_some_iff.mp ht).1] at h
      exact .inr (by rw [if_neg (Nat.not_lt_zero t)]; omega)
  nd := I.nd
  ch h := by cases h
theorem Iv.start {ds : List Dif} {N : Num} : Iv ds N [] false (fun _ => 0) 1 0 where
  step p j h := by rw [lookA_nil] at h; cases h
  le p := Nat.zero_le _
  key p h := absurd h (by decide)
  old t d ht := .inr (by rw [if_neg (Nat.not_lt_zero t)]; exact Nat.le_refl _)
  nd := List.nodup_nil
  ch h := by cases h
/-- what holds at the end of the rounds -/
theorem settled_iv {ds : List Dif} : ∀ (k r : Nat) (N S : Num) (L : PK → Nat), 1 ≤ r → (∃ x, L x + 1 = r) → Iv ds N S false L r 0 → ∃ L' r' , Iv ds (settledM ds k N S).1 (settledM ds k N S).2.1 false L' r' 0 ∧
    ((settledM ds k N S).2.2 = true → r + k = r' ∧ ∃ x, L' x + 1 = r')
  | 0, r, N, S, L, hr, hx, I => ⟨L, r, I, fun _ => ⟨rfl, hx⟩⟩
  | k + 1, r, N, S, L, hr, hx, I => by
    obtain ⟨L', I'⟩ := I.improved hr
    rw [settledM]
    by_cases c : (improvedM ds N S).2.2 = true
    · rw [if_pos c]
      obtain ⟨x, hx⟩ := I'.ch c
      obtain ⟨L2, r2, I2, h2⟩ := settled_iv k (r + 1) _ _ L' (Nat.le_succ_of_le hr) ⟨x, by rw [hx]⟩ I'.turn
      refine ⟨L2, r2, I2, fun e => ?_⟩
      obtain ⟨e1, e2⟩ := h2 e
      exact ⟨by omega, e2⟩
    · rw [if_neg c]
      exact ⟨L', r + 1, I'.turn, fun h => by cases h⟩
/-- from a point whose last round is great the steps go on -/
theorem ch_last {ds : List Dif} {N S : Num} {L : PK → Nat} {r : Nat} (I : Iv ds N S false L r 0) {x : PK} : ∀ n, n + 1 ≤ L x → L x ≤ L (chM ds S n x) + n
  | 0, _ => Nat.le_refl _
  | n + 1, h => by
    have ih := ch_last I (x := x) n (by omega)
    have hk := I.key (chM ds S n x) (by omega)
    obtain ⟨j, hj⟩ := mem_look hk
    obtain ⟨d, _, hd, _, _, hL⟩ := I.step _ j hj
    have e : chM ds S (n + 1) x = d.2.1 := by
      rw [chM, nxM, hj]
      dsimp only
      rw [hd]
    rw [e]; omega
/-- steps that go on longer than there are points never end -/
theorem cyc_of {ds : List Dif} {S : Num} {st : PK} {m : Nat} (hm : S.length < m) (h : ∀ n, n < m → chM ds S n st ∈ S.map (·.1)) : HasCyc ds S := by
  refine ⟨st, h 0 (by omega), fun n => ?_⟩
  -- two of the first m are alike
  have ⟨i, j, ij, jm, e⟩ : ∃ i j, i < j ∧ j < m ∧ chM ds S i st = chM ds S j st := by
    apply Classical.byContradiction
    intro hno
    have nd : ((List.range m).map fun n => chM ds S n st).Nodup := by
      rw [List.nodup_iff_pairwise_ne, List.pairwise_map, List.pairwise_iff_getElem]
      intro i j hi hj hij e
      rw [List.length_range] at hi hj
      rw [List.getElem_range, List.getElem_range] at e
      exact hno ⟨i, j, hij, hj, e⟩
    have := nodup_len nd (r := S.map (·.1)) fun a ha => by
      obtain ⟨n, hn, rfl⟩ := List.mem_map.mp ha
      exact h n (List.mem_range.mp hn)
    simp at this
    omega
  rcases Nat.lt_or_ge n j with q | q
  · exact h n (by omega)
  · have per : chM ds S (j - i) (chM ds S i st) = chM ds S i st := by rw [← chM_add, show j - i + i = j by omega, e]
    have e1 : chM ds S n st = chM ds S ((n - i) % (j - i) + i) st := by
      rw [show n = (n - i) + i by omega, chM_add, chM_add, show n - i + i - i = n - i by omega]
      conv => lhs; rw [← Nat.mod_add_div (n - i) (j - i), chM_add, per_mod per]
    rw [e1]
    have := Nat.mod_lt (n - i) (show 0 < j - i by omega)
    exact h _ (by omega)
theorem settled_keys {ds : List Dif} {N S : Num} {L : PK → Nat} {r : Nat} (I : Iv ds N S false L r 0) {ks : List PK} (hks : PtsOf ds ks) : ∀ p ∈ S.map (·.1), p ∈ ks := fun p hp => by
  obtain ⟨j, hj⟩ := mem_look hp
  obtain ⟨d, _, hd, e, _⟩ := I.step p j hj
  rw [hks.2, ← e]
  exact List.mem_cons_of_mem _ (List.mem_flatMap.mpr ⟨d, List.mem_of_getElem? hd, by simp⟩)
theorem settled_cyc {ds : List Dif} {ks : List PK} (hks : PtsOf ds ks) {N : Num} {k : Nat} (hk : ks.length < k) (h : (settledM ds k N []).2.2 = true) : HasCyc ds (settledM ds k N []).2.1 := by
  obtain ⟨L, r, I, hr⟩ := settled_iv k 1 N [] _ (Nat.le_refl 1) ⟨zeroP, rfl⟩ Iv.start
  obtain ⟨e, x, hx⟩ := hr h
  have hl : ((settledM ds k N []).2.1.map (·.1)).length ≤ ks.length := nodup_len I.nd (settled_keys I hks)
  rw [List.length_map] at hl
  refine cyc_of (st := x) (m := k) (by omega) fun n hn => ?_
  have := ch_last I n (x := x) (by omega)
  exact I.key _ (by omega)
theorem settled_ok {ds : List Dif} {N : Num} {k : Nat} : StepOk ds (settledM ds k N []).2.1 ∧ ((settledM ds k N []).2.1.map (·.1)).Nodup ∧ ∀ ks, PtsOf ds ks → ∀ p ∈ (settledM ds k N []).2.1.map (·.1), p ∈ ks := by
  obtain ⟨L, r, I, hr⟩ := settled_iv k 1 N [] _ (Nat.le_refl 1) ⟨zeroP, rfl⟩ Iv.start
  refine ⟨fun p j hj => ?_, I.nd, fun ks hks => settled_keys I hks⟩
  obtain ⟨d, j0, hd, _⟩ := I.step p j hj
  exact ⟨j0, (List.getElem?_eq_some_iff.mp hd).1⟩
end Mk


set_option Elab.async false
set_option linter.all false
set_option maxRecDepth 100000
set_option maxHeartbeats 400000
/-! the plain law of rounds: numbers that fit, tightest numbers -/
namespace Mk
open PySem PySem.Spec PyProof.Rows L2
def Sol (ds : List Dif) (f : PK → Int) : Prop := ∀ d ∈ ds, f d.1 - f d.2.1 ≤ d.2.2
def FitM (ds : List Dif) : Prop := ∃ f, Sol ds f
/-! ### what each row keeps, the rounds keep -/
theorem round_ind {ds : List Dif} {Pr : Num → Num → Prop} (hs : ∀ N S b i d, ds[i]? = some d → Pr N S → Pr (stepM (N, S, b) (i : Nat) d).1 (stepM (N, S, b) (i : Nat) d).2.1) :
    ∀ (l : List Dif) (i : Nat) (N S : Num) (b : Bool), (∀ t, l[t]? = ds[i + t]?) → Pr N S → Pr (roundM (N, S, b) i l).1 (roundM (N, S, b) i l).2.1
  | [], _, _, _, _, _, h => h
  | d :: l, i, N, S, b, e, h => by
    rw [roundM]
    have hd : ds[i]? = some d := by have := e 0; simpa using this.symm
    refine round_ind hs l (i + 1) _ _ _ (fun t => ?_) (hs N S b i d hd h)
    have := e (t + 1)
    rw [List.getElem?_cons_succ] at this
    rw [this]; congr 1; omega
theorem settled_ind {ds : List Dif} {Pr : Num → Num → Prop} (hs : ∀ N S b i d, ds[i]? = some d → Pr N S → Pr (stepM (N, S, b) (i : Nat) d).1 (stepM (N, S, b) (i : Nat) d).2.1) :
    ∀ (k : Nat) (N S : Num), Pr N S → Pr (settledM ds k N S).1 (settledM ds k N S).2.1
  | 0, _, _, h => h
  | k + 1, N, S, h => by
    have := round_ind hs ds 0 N S false (fun t => by rw [Nat.zero_add]) h
    rw [settledM]
    by_cases c : (improvedM ds N S).2.2 = true
    · rw [if_pos c]
      exact settled_ind hs k _ _ this
    · rw [if_neg c]
      exact this
theorem settled_rel {ds : List Dif} : ∀ (k : Nat) (N S : Num), (settledM ds k N S).2.2 = false → ∀ d ∈ ds, Rel (settledM ds k N S).1 d
  | 0, _, _, h => by cases h
  | k + 1, N, S, h => by
    rw [settledM] at h ⊢
    by_cases c : (improvedM ds N S).2.2 = true
    · rw [if_pos c] at h ⊢
      exact settled_rel k _ _ h
    · rw [if_neg c]
      have c := Bool.not_eq_true _ ▸ c
      obtain ⟨a, _, b⟩ := roundM_false (i := 0) (ds := ds) (N := N) (S := S) c
      show ∀ d ∈ ds, Rel (roundM (N, S, false) 0 ds).1 d
      rw [a]
      exact b
/-! ### where something fits the steps end -/
def prv (ds : List Dif) (S : Num) (p : PK) : Option PK := (lookA S p).bind fun i => ds[i.toNat]?.map (·.2.1)
inductive EndsM (nx : PK → Option PK) : PK → Prop
  | mk {p : PK} : (∀ j, nx p = some j → EndsM nx j) → EndsM nx p
inductive ReachM (nx : PK → Option PK) : PK → PK → Prop
  | refl {p : PK} : ReachM nx p p
  | step {p q r : PK} : nx p = some q → ReachM nx q r → ReachM nx p r
theorem ends_set {nx nx' : PK → Option PK} {k j : PK} (h : ∀ p, EndsM nx p) (e : ∀ p, nx' p = if p = k then some j else nx p) (hr : ¬ ReachM nx j k) : ∀ p, EndsM nx' p := by
  have h1 : ∀ p, EndsM nx p → ¬ ReachM nx p k → EndsM nx' p := by
    intro p hp
    induction hp with
    | @mk p _ ih =>
      intro hn
      refine .mk fun q hq => ?_
      rw [e] at hq
      by_cases c : p = k
      · exact absurd (c ▸ ReachM.refl) hn
      · rw [if_neg c] at hq
        exact ih q hq fun z => hn (.step hq z)
  intro p
  have hp := h p
  induction hp with
  | @mk p _ ih =>
    refine .mk fun q hq => ?_
    rw [e] at hq
    by_cases c : p = k
    · rw [if_pos c] at hq
      cases hq
      exact h1 j (h j) hr
    · rw [if_neg c] at hq
      exact ih q hq
structure Av (ds : List Dif) (f : PK → Int) (N S : Num) : Prop where
  step : ∀ p j, prv ds S p = some j → ∃ x y, lookA N p = some x ∧ lookA N j = some y ∧ y - f j ≤ x - f p
  ends : ∀ p, EndsM (prv ds S) p
theorem Av.reach {ds : List Dif} {f : PK → Int} {N S : Num} (A : Av ds f N S) {p q : PK} (h : ReachM (prv ds S) p q) : ∀ {y : Int}, lookA N p = some y → ∃ x, lookA N q = some x ∧ x - f q ≤ y - f p := by
  induction h with
  | refl => intro y hy; exact ⟨y, hy, Int.le_refl _⟩
  | step h _ ih =>
    intro y hy
    obtain ⟨x, z, hx, hz, hle⟩ := A.step _ _ h
    rw [hx] at hy
    cases hy
    obtain ⟨x', h1, h2⟩ := ih hz
    exact ⟨x', h1, by omega⟩
theorem Av.next {ds : List Dif} {f : PK → Int} (hf : Sol ds f) (N S : Num) (b : Bool) (i : Nat) (d : Dif) (hd : ds[i]? = some d) (A : Av ds f N S) : Av ds f (stepM (N, S, b) i d).1 (stepM (N, S, b) i d).2.1 := by
  rcases stepM_cases N S b i d with ⟨e, _⟩ | ⟨y, h1, h2, e⟩
  · rw [e]; exact A
  · rw [e]
    have hw := hf d (List.mem_of_getElem? hd)
    have hne : d.2.1 ≠ d.1 := fun z => by
      have := h2 y (z ▸ h1)
      rw [z] at hw
      omega
    have pr : ∀ p, prv ds (putA S d.1 i) p = if p = d.1 then some d.2.1 else prv ds S p := fun p => by
      unfold prv
      rw [lookA_put]
      by_cases c : p = d.1
      · rw [if_pos c, if_pos c, Option.bind_some, Int.toNat_natCast, hd]; rfl
      · rw [if_neg c, if_neg c]
    refine ⟨fun p j hj => ?_, ends_set A.ends pr fun hr => ?_⟩
    · rw [pr] at hj
      by_cases c : p = d.1
      · rw [if_pos c] at hj
        cases hj
        subst c
        exact ⟨y + d.2.2, y, by rw [lookA_put, if_pos rfl], by rw [lookA_put, if_neg hne]; exact h1, by omega⟩
      · rw [if_neg c] at hj
        obtain ⟨x, z, hx, hz, hle⟩ := A.step p j hj
        by_cases c2 : j = d.1
        · subst c2
          have := h2 z hz
          exact ⟨x, y + d.2.2, by rw [lookA_put, if_neg c]; exact hx, by rw [lookA_put, if_pos rfl], by omega⟩
        · exact ⟨x, z, by rw [lookA_put, if_neg c]; exact hx, by rw [lookA_put, if_neg c2]; exact hz, hle⟩
    · obtain ⟨x, hx, hle⟩ := A.reach hr h1
      have := h2 x hx
      omega
theorem no_cyc {ds : List Dif} {S : Num} (ok : StepOk ds S) (h : ∀ p, EndsM (prv ds S) p) : ¬ HasCyc ds S := by
  rintro ⟨st, _, hc⟩
  have : ∀ p, EndsM (prv ds S) p → ¬ ∀ n, chM ds S n p ∈ S.map (·.1) := by
    intro p hp
    induction hp with
    | @mk p _ ih =>
      intro hn
      obtain ⟨i, hi⟩ := mem_look (hn 0)
      have hi : lookA S p = some i := hi
      obtain ⟨_, il⟩ := ok p i hi
      have e : nxM ds S p = (ds[i.toNat]).2.1 := by
        unfold nxM
        rw [hi]
        dsimp only
        rw [List.getElem?_eq_getElem il]
      refine ih (nxM ds S p) ?_ fun n => ?_
      · unfold prv
        rw [hi, e, Option.bind_some, List.getElem?_eq_getElem il]; rfl
      · have := hn (n + 1)
        rw [chM_add n (b := 1)] at this
        exact this
  exact this st (h st) hc
theorem settled_fit {ds : List Dif} {ks : List PK} (hks : PtsOf ds ks) {N : Num} {k : Nat} (hk : ks.length < k) (hf : FitM ds) : (settledM ds k N []).2.2 = false := by
  rw [Bool.eq_false_iff]
  intro h
  obtain ⟨f, hf⟩ := hf
  have A := settled_ind (ds := ds) (Pr := Av ds f) (fun N S b i d hd A => A.next hf N S b i d hd) k N [] ⟨fun p j h => (by rw [prv, lookA_nil] at h; cases h), fun p => EndsM.mk (fun j h => (by rw [prv, lookA_nil] at h; cases h))⟩
  exact no_cyc settled_ok.1 A.ends (settled_cyc hks hk h)
/-! ### numbers that are had stay, and fall -/
theorem keep_some {ds : List Dif} {p : PK} {k : Nat} {N S : Num} {x : Int} (h : lookA N p = some x) : ∃ x', lookA (settledM ds k N S).1 p = some x' ∧ x' ≤ x := by
  refine settled_ind (ds := ds) (Pr := fun N _ => ∃ x', lookA N p = some x' ∧ x' ≤ x) (fun N S b i d _ hN => ?_) k N S ⟨x, h, Int.le_refl _⟩
  obtain ⟨x', h1, h2⟩ := hN
  rcases stepM_cases N S b i d with ⟨e, _⟩ | ⟨y, hy, hlt, e⟩
  · rw [e]; exact ⟨x', h1, h2⟩
  · rw [e]
    dsimp only
    rw [lookA_put]
    by_cases c : p = d.1
    · rw [if_pos c]
      have := hlt x' (c ▸ h1)
      exact ⟨_, rfl, by omega⟩
    · rw [if_neg c]; exact ⟨x', h1, h2⟩
def zerosM (ks : List PK) : Num := ks.map fun k => (k, 0)
theorem zeros_look {ks : List PK} {k : PK} (h : k ∈ ks) : lookA (zerosM ks) k = some 0 := by
  induction ks with
  | nil => cases h
  | cons x ks ih =>
    rw [zerosM, List.map_cons, lookA_cons]
    by_cases c : x = k
    · rw [if_pos c]
    · rw [if_neg c]
      exact ih ((List.mem_cons.mp h).resolve_left fun z => c z.symm)
theorem pts_l {ds : List Dif} {ks : List PK} (hks : PtsOf ds ks) {d : Dif} (hd : d ∈ ds) : d.1 ∈ ks := (hks.2 _).mpr (List.mem_cons_of_mem _ (List.mem_flatMap.mpr ⟨d, hd, by simp⟩))
theorem pts_r {ds : List Dif} {ks : List PK} (hks : PtsOf ds ks) {d : Dif} (hd : d ∈ ds) : d.2.1 ∈ ks := (hks.2 _).mpr (List.mem_cons_of_mem _ (List.mem_flatMap.mpr ⟨d, hd, by simp⟩))
/-- the numbers of the rounds fit, if the rounds end -/
theorem settled_sol {ds : List Dif} {ks : List PK} (hks : PtsOf ds ks) {k : Nat} (h : (settledM ds k (zerosM ks) []).2.2 = false) : Sol ds fun p => (lookA (settledM ds k (zerosM ks) []).1 p).getD 0 := by
  intro d hd
  obtain ⟨x, hx, _⟩ := keep_some (ds := ds) (k := k) (S := []) (zeros_look (pts_l hks hd))
  obtain ⟨y, hy, _⟩ := keep_some (ds := ds) (k := k) (S := []) (zeros_look (pts_r hks hd))
  obtain ⟨x', hx', hle⟩ := settled_rel k _ _ h d hd y hy
  rw [hx] at hx'
  cases hx'
  dsimp only
  rw [hx, hy]
  show x - y ≤ d.2.2
  omega
theorem settled_iff {ds : List Dif} {ks : List PK} (hks : PtsOf ds ks) {k : Nat} (hk : ks.length < k) : (settledM ds k (zerosM ks) []).2.2 = false ↔ FitM ds :=
  ⟨fun h => ⟨_, settled_sol hks h⟩, fun h => settled_fit hks hk h⟩
/-- what the tightest number is -/
def BoundM (ds : List Dif) (one other : PK) : Option Int → Prop
  | some b => (∀ f, Sol ds f → f one - f other ≤ b) ∧ ∃ f, Sol ds f ∧ f one - f other = b
  | none => ∀ B : Int, ∃ f, Sol ds f ∧ B < f one - f other
theorem settled_bound {ds : List Dif} {ks : List PK} (hks : PtsOf ds ks) {k : Nat} (hk : ks.length < k) (hf : FitM ds) (one other : PK) : BoundM ds one other (lookA (settledM ds k [(other, 0)] []).1 one) := by
  have hfl := settled_fit hks (N := [(other, 0)]) hk hf
  have rel := settled_rel k _ _ hfl
  have low : ∀ f, Sol ds f → ∀ p x, lookA (settledM ds k [(other, 0)] []).1 p = some x → f p - f other ≤ x := by
    intro f hs
    refine settled_ind (ds := ds) (Pr := fun N _ => ∀ p x, lookA N p = some x → f p - f other ≤ x) (fun N S b i d hd hN => ?_) k _ _ fun p x h => ?_
    · rcases stepM_cases N S b i d with ⟨e, _⟩ | ⟨y, hy, hlt, e⟩
      · rw [e]; exact hN
      · rw [e]
        intro p x h
        dsimp only at h
        rw [lookA_put] at h
        by_cases c : p = d.1
        · rw [if_pos c] at h
          cases h
          have h1 := hN _ _ hy
          have h2 := hs d (List.mem_of_getElem? hd)
          rw [c]; omega
        · rw [if_neg c] at h; exact hN p x h
    · rw [lookA_cons, lookA_nil] at h
      by_cases c : other = p
      · rw [if_pos c] at h
        cases h
        rw [c]; omega
      · rw [if_neg c] at h; cases h
  obtain ⟨o, ho, hole⟩ := keep_some (ds := ds) (k := k) (S := []) (N := [(other, 0)]) (p := other) (x := 0) (by rw [lookA_cons, if_pos rfl])
  generalize hN : (settledM ds k [(other, 0)] []).1 = N at *
  obtain ⟨g, hg⟩ := hf
  have o0 : o = 0 := by have := low g hg other o ho; omega
  -- the numbers, and g raised by M where there is none
  have sh : ∀ M : Int, (∀ d ∈ ds, (lookA N d.2.1).isNone = true → ∀ x, lookA N d.1 = some x → x - d.2.2 - g d.2.1 ≤ M) → Sol ds fun p => (lookA N p).getD (g p + M) := by
    intro M hM d hd
    dsimp only
    rcases h1 : lookA N d.2.1 with _ | y
    · rcases h2 : lookA N d.1 with _ | x
      · have := hg d hd
        show g d.1 + M - (g d.2.1 + M) ≤ d.2.2
        omega
      · have := hM d hd (by rw [h1]; rfl) x h2
        show x - (g d.2.1 + M) ≤ d.2.2
        omega
    · obtain ⟨x, hx, hle⟩ := rel d hd y h1
      rw [hx]
      show x - y ≤ d.2.2
      omega
  -- one M is great enough
  have big : ∀ l : List Dif, ∃ M0 : Int, ∀ M, M0 ≤ M → ∀ d ∈ l, (lookA N d.2.1).isNone = true → ∀ x, lookA N d.1 = some x → x - d.2.2 - g d.2.1 ≤ M := by
    intro l
    induction l with
    | nil => exact ⟨0, fun _ _ _ h => by cases h⟩
    | cons d l ih =>
      obtain ⟨M0, h0⟩ := ih
      refine ⟨max M0 ((lookA N d.1).getD 0 - d.2.2 - g d.2.1), fun M hM e he hn x hx => ?_⟩
      rcases List.mem_cons.mp he with rfl | he
      · rw [hx] at hM
        have : x - e.2.2 - g e.2.1 ≤ M := Int.le_trans (Int.le_max_right _ _) hM
        exact this
      · exact h0 M (Int.le_trans (Int.le_max_left _ _) hM) e he hn x hx
  obtain ⟨M0, hM0⟩ := big ds
  rcases h1 : lookA N one with _ | b
  · intro B
    refine ⟨_, sh (max M0 (B - g one + 1)) (hM0 _ (Int.le_max_left _ _)), ?_⟩
    rw [h1, ho, o0]
    have := Int.le_max_right M0 (B - g one + 1)
    show B < g one + max M0 (B - g one + 1) - 0
    omega
  · refine ⟨fun f hs => low f hs one b h1, _, sh M0 (hM0 _ (Int.le_refl _)), ?_⟩
    rw [h1, ho, o0]
    show b - 0 = b
    omega
end Mk


set_option Elab.async false
set_option linter.all false
set_option maxRecDepth 100000
set_option maxHeartbeats 400000
/-! ring_of, fitted, bound_of, fitting, is_fitting, ring, tightest -/
namespace Mk
open PySem PySem.Spec PyProof.Rows L2
section
variable {P : Program} {w : World} {K : PySem.W.Frag} {mg : Str → Option Value} {base : Heap}
/-- {point: .. for point in points} -/
theorem dc_pts {H1 : Hp} {a : Addr} {ks : List PK} {xs : List V} {te : TE} {g : PK → Int} {σ : L2.St} {Q : VK} {j : Nat} (hj : j < σ.length) (hx : H1 a = some (.lst xs)) (pr : Paired (KyV K H1) ks xs) (nd : ks.Nodup) (lk : ks.length ≤ 1000)
    (hval : ∀ k ∈ ks, ∀ x H' (R : VK), Gx H1 H' → KyV K H' k x → R (.int (g k)) H' → te ((σ.set j none).set j (some x)) H' R)
    (q : ∀ H' D, Gx H1 H' → H1 D = none → DicW P w K H' D (IM (ks.map fun k => (k, g k))) → Q (.ref D) H') :
    ∀ D u, H1 D = none → DicW P w K (upd H1 D u) D [] →
      ∃ W : Nat → Nat → Hp → Prop, (∃ m, W 0 m (upd H1 D u)) ∧ ∀ i m H, W i m H → ((Itl K a).stop i H ∧ Q (.ref D) H) ∨
        ((Itl K a).go i H ∧ ∃ Nx : Hp → Prop, (∀ H', Nx H' → ∃ m', m' < m ∧ W (i + 1) m' H') ∧ ∀ x H', (Itl K a).yld i H x H' → gName j x (wipe σ [j]) H' fun σ2 H2 => wipe σ2 [j] = wipe σ [j] ∧ tYes σ2 H2 fun b H3 =>
          if b = true then tVar j σ2 H3 fun y H4 => te σ2 H4 fun z H5 => ∃ kvs k, KyV K H5 k y ∧ DicW P w K H5 D kvs ∧ kvs.length < sizeLine ∧ ∀ u, DicW P w K (upd H5 D u) D (putK kvs k z) → Nx (upd H5 D u) else Nx H3) := by
  intro D u hD hd
  refine dc_it (walk_list (xs := xs)) (fun i H' => Gx H1 H' ∧ DicW P w K H' D (IM ((ks.take i).map fun k => (k, g k)))) ⟨.new hD, by rw [List.take_zero]; exact hd⟩ (fun _ H' _ h => h.1.seqL (.inl (.inl hx))) (fun i x H2 H3 hi hP hY => ?_) (fun H2 hP => ?_)
  · obtain ⟨rfl, hxi⟩ := hY
    obtain ⟨gg, dd⟩ := hP
    obtain ⟨k, hk, kv⟩ := pair_at pr hxi
    have kv := kv.keep gg.tk
    refine ⟨?_, ?_⟩
    · show ((σ.set j none).set j (some x)).set j none = σ.set j none
      rw [List.set_set, List.set_set]
    · have gj : ((σ.set j none).set j (some x))[j]? = some (some x) := by rw [List.set_set, List.getElem?_set_self hj]
      refine ⟨x, gj, hval k (List.mem_of_getElem? hk) x H3 _ gg kv ?_⟩
      have nk : k ∉ ks.take i := fun z => by
        obtain ⟨n, hn, e⟩ := List.mem_iff_getElem.mp z
        rw [List.length_take] at hn
        rw [List.getElem_take] at e
        obtain ⟨il, e2⟩ := List.getElem?_eq_some_iff.mp hk
        exact (List.pairwise_iff_getElem.mp (List.nodup_iff_pairwise_ne.mp nd)) n i (by omega) il (by omega) (e.trans e2.symm)
      refine ⟨_, k, kv, dd, line_lt (m := 1000) (by rw [VM_len, List.length_map]; exact take_len lk), fun u2 h2 => ⟨gg.mut hD, ?_⟩⟩
      rw [putK_new] at h2
      · rw [take_s hk, List.map_append, IM, VM, List.map_append]
        exact h2
      · rw [IM, VM, List.map_map, List.map_map]
        intro z
        obtain ⟨n, a, b⟩ := List.mem_map.mp z
        exact nk (by rw [← b]; exact a)
  · obtain ⟨gg, dd⟩ := hP
    rw [← Paired.length pr, List.take_length] at dd
    exact q H2 D gg hD dd
def spRof (K : PySem.W.Frag) : Sp := fun vs H Q _ => ∃ v ds, vs = [v] ∧ DsV K H ds v ∧ GoodDs ds ∧ (FitM ds → ∀ H', Gx H H' → Q .non H') ∧ (¬ FitM ds → ∀ H' p (rs : List Int), Gx H H' → H p = none → SqT K H' p (rs.map V.int) → Q (.ref p) H')
theorem C_ring_of (T : Tops mg) (D : Def K mg "ring_of" s_ring_of ["differences"]) (C_points_of : Cal P w K mg base "points_of" 1 ["differences"] (spPts K)) (C_settled : Cal P w K mg base "settled" 2 ["differences", "numbers"] (spSet P w K)) (C_ring_in : Cal P w K mg base "ring_in" 1 ["differences", "steps"] (spRin P w K)) : Cal P w K mg base "ring_of" 3 ["differences"] (spRof K) := by
  refine Cal.of D sc_ring_of (fun vs H Q E h => ?_) (fun f cdv A outer s H vs Q E hr h => ?_)
  · obtain ⟨v, ds, rfl, _⟩ := h; rfl
  · obtain ⟨v, ds, rfl, hv, hg, q1, q2⟩ := h
    have hu := hu_of hr
    have h0 := hr.units0
    refine ⟨_, (pss_cons (ps_asg (pe_cal C_settled hr (by decide) (by rfl) (pa_cons (pv 0) (pa_cons (pe_dcP h0 (own := [("point", 3)]) rfl sc_ring_of.nd (pi_list (pe_cal C_points_of hr (by decide) (by rfl) (pa_cons (pv 0) pa_nil))) (blkOk_by (own := [("point", 3)]) (N := N_ring_of) (sc := defScope s_ring_of) (by decide +kernel)) (fun _ _ _ _ _ => (pg_name (i := 3) sc_ring_of.nd rfl (Or.inl rfl))) (fun _ _ _ _ _ => pts_nil) (fun _ _ _ _ _ => (pv 3)) (fun _ _ _ _ _ => pe_int)) pa_nil))) (pg_tup rfl (pgs_cons (pg_name (i := 1) sc_ring_of.nd rfl (Or.inl rfl)) (pgs_cons (pg_name (i := 2) sc_ring_of.nd rfl (Or.inl rfl)) pgs_nil))))
      (pss_one (ps_ret (pe_ifExp (pt_val (pv 2)) (pe_cal C_ring_in hr (by decide) (by rfl) (pa_cons (pv 0) (pa_cons (pv 1) pa_nil))) pe_non)))), ?_⟩
    simp only [cxOf, Cx.nox, L2.start, tRet, tAndV, tOrV, tNotV, tCB, tCons, tNil, tVar, tC, tOp, tUn, tChain, tIfS, tTest, tSeq, tNext, tB, tOr, tAnd, tNot, tAsg, tDrop, tCall, rI0, rI, rU, List.cons_append, List.nil_append, List.append_nil, List.map_cons, List.map_nil, List.length_cons, List.length_nil, Nat.reduceAdd, Nat.reduceSub, List.replicate_succ, List.replicate_zero, List.getElem?_cons_zero, List.getElem?_cons_succ, Option.some.injEq, exists_eq_left, exists_eq_left', exists_eq_right, V.int.injEq, V.bl.injEq, V.str.injEq, V.ref.injEq, true_and, and_true, exists_and_left, if_true, if_false, gTup, gCons, gNil, gSub, gName, Mk.rSetD, List.set_cons_zero, List.set_cons_succ, Bool.false_eq_true, List.cons.injEq, Bool.not_true, Bool.not_false, eq_self, decide_true, decide_false, c3, N_ring_of]
    refine (?_ : tDcP P w K _ _ _ _ _ _ _ _ ?QQ)
    refine ⟨_, rfl, v, ds, rfl, hv, hg, fun H1 a ks g1 ha plv pts => ?_⟩
    obtain ⟨xs, hx, pr⟩ := plv
    have lks : ks.length ≤ 121 := by
      refine Nat.le_trans (nodup_len pts.1 (fun k hk => (pts.2 k).mp hk)) ?_
      have := hg.1
      rw [allPts_len]; omega
    refine ⟨a, rfl, ⟨_, .inl (.inl hx)⟩, ?_⟩
    refine dc_pts (P := P) (w := w) (Q := ?QQ) (te := tC (.int 0)) (j := 3) (σ := [some v, none, none, none]) (Nat.le_refl 4) hx pr pts.1 (Nat.le_trans lks (by decide)) (g := fun _ => 0) (fun _ _ _ _ _ _ _ h => h) fun H2 dn g2 hdn hD => ?_
    have g12 := g1.trans g2
    refine ⟨v, dn, ds, zerosM ks, rfl, hv.keep g12.tk, hg, hD, by rw [zerosM, List.length_map]; omega, fun H3 p dt ks' g3 hp hdt hS pts' hN hSt => ?_⟩
    have g3' : Gx H H3 := fun b o hb => g3 b o (fun z => by subst z; rw [g1 _ _ hb] at hdn; cases hdn) (g12 _ _ hb)
    have hlen : ks'.length = ks.length := Nat.le_antisymm (nodup_len pts'.1 fun k hk => (pts.2 k).mpr ((pts'.2 k).mp hk)) (nodup_len pts.1 fun k hk => (pts'.2 k).mpr ((pts.2 k).mp hk))
    have hk : ks.length < ks'.length + (zerosM ks).length + 1 := by omega
    refine ⟨p, rfl, _, hS, rfl, _, _, rfl, _, _, rfl, rfl, ?_⟩
    have iff := settled_iff pts hk
    simp only [cxOf, Cx.nox, L2.start, tRet, tAndV, tOrV, tNotV, tCB, tCons, tNil, tVar, tC, tOp, tUn, tChain, tIfS, tTest, tSeq, tNext, tB, tOr, tAnd, tNot, tAsg, tDrop, tCall, rI0, rI, rU, List.cons_append, List.nil_append, List.append_nil, List.map_cons, List.map_nil, List.length_cons, List.length_nil, Nat.reduceAdd, Nat.reduceSub, List.replicate_succ, List.replicate_zero, List.getElem?_cons_zero, List.getElem?_cons_succ, Option.some.injEq, exists_eq_left, exists_eq_left', exists_eq_right, V.int.injEq, V.bl.injEq, V.str.injEq, V.ref.injEq, true_and, and_true, exists_and_left, if_true, if_false, gTup, gCons, gNil, gSub, gName, Mk.rSetD, List.set_cons_zero, List.set_cons_succ, Bool.false_eq_true, List.cons.injEq, Bool.not_true, Bool.not_false, eq_self, decide_true, decide_false, c3, tIf]
    by_cases hf : FitM ds
    · rw [iff.mpr hf]
      exact q1 hf H3 g3'
    · have hb : (settledM ds (ks'.length + (zerosM ks).length + 1) (zerosM ks) []).2.2 = true := Bool.not_eq_false _ ▸ fun z => hf (iff.mp z)
      rw [if_pos hb]
      obtain ⟨ok, nd, sub⟩ := settled_ok (ds := ds) (N := zerosM ks) (k := ks'.length + (zerosM ks).length + 1)
      have cyc := settled_cyc pts hk hb
      generalize settledM ds (ks'.length + (zerosM ks).length + 1) (zerosM ks) [] = st at *
      refine ⟨v, dt, ds, st.2.1, rfl, hv.keep g3'.tk, hg, hSt, nd, ?_, fun k hkk => allPts_good hg.2 ((pts.2 k).mp (sub ks pts k hkk)), ok, cyc, fun H4 p4 rs g4 hp4 hs4 _ => q2 hf H4 p4 rs (g3'.trans g4) (g3'.free hp4) hs4⟩
      have := nodup_len nd (sub ks pts)
      rw [List.length_map] at this
      omega
def spFit (P : Program) (w : World) (K : PySem.W.Frag) : Sp := fun vs H Q _ => ∃ v ds, vs = [v] ∧ DsV K H ds v ∧ GoodDs ds ∧ (¬ FitM ds → ∀ H', Gx H H' → Q .non H') ∧
  (FitM ds → ∀ H' p ks g, Gx H H' → H p = none → PtsOf ds ks → DicW P w K H' p (IM (ks.map fun k => (k, g k))) → Sol ds g → g zeroP = 0 → Q (.ref p) H')
theorem C_fitted (T : Tops mg) (D : Def K mg "fitted" s_fitted ["differences"]) (C_points_of : Cal P w K mg base "points_of" 1 ["differences"] (spPts K)) (C_settled : Cal P w K mg base "settled" 2 ["differences", "numbers"] (spSet P w K)) : Cal P w K mg base "fitted" 3 ["differences"] (spFit P w K) := by
  refine Cal.of D sc_fitted (fun vs H Q E h => ?_) (fun f cdv A outer s H vs Q E hr h => ?_)
  · obtain ⟨v, ds, rfl, _⟩ := h; rfl
  · obtain ⟨v, ds, rfl, hv, hg, q1, q2⟩ := h
    have hu := hu_of hr
    have h0 := hr.units0
    refine ⟨_, (pss_cons (ps_set (i := 1) sc_fitted.nd rfl (Or.inl rfl) (pe_cal C_points_of hr (by decide) (by rfl) (pa_cons (pv 0) pa_nil)))
      (pss_cons (ps_set (i := 2) sc_fitted.nd rfl (Or.inr rfl) (pe_dcP h0 (own := [("point", 3)]) rfl sc_fitted.nd (pi_list (pv 1)) (blkOk_by (own := [("point", 3)]) (N := N_fitted) (sc := defScope s_fitted) (by decide +kernel)) (fun _ _ _ _ _ => (pg_name (i := 3) sc_fitted.nd rfl (Or.inl rfl))) (fun _ _ _ _ _ => pts_nil) (fun _ _ _ _ _ => (pv 3)) (fun _ _ _ _ _ => pe_int)))
      (pss_cons (ps_if (pt_val (pe_ix (ix_tup' (K := K) rfl) (pe_cal C_settled hr (by decide) (by rfl) (pa_cons (pv 0) (pa_cons (pv 2) pa_nil))) pe_int (fun _ _ => rfl))) (pss_one (ps_ret pe_non)) pss_nil)
      (pss_one (ps_ret (pe_dcP h0 (own := [("point", 3)]) rfl sc_fitted.nd (pi_list (pv 1)) (blkOk_by (own := [("point", 3)]) (N := N_fitted) (sc := defScope s_fitted) (by decide +kernel)) (fun _ _ _ _ _ => (pg_name (i := 3) sc_fitted.nd rfl (Or.inl rfl))) (fun _ _ _ _ _ => pts_nil) (fun _ _ _ _ _ => (pv 3)) (fun _ _ _ _ _ => (pe_op op_sub (pe_ix (ix_dic' hu (P := P) (w := w) (K := K) rfl rfl rfl) (pv 2) (pv 3) (fun _ _ => rfl)) (pe_ix (ix_dic' hu (P := P) (w := w) (K := K) rfl rfl rfl) (pv 2) (pe_const T.c_ZERO (by rfl)) (fun _ _ => rfl)))))))))), ?_⟩
    simp only [cxOf, Cx.nox, L2.start, tRet, tAndV, tOrV, tNotV, tCB, tCons, tNil, tVar, tC, tOp, tUn, tChain, tIfS, tTest, tSeq, tNext, tB, tOr, tAnd, tNot, tAsg, tDrop, tCall, rI0, rI, rU, List.cons_append, List.nil_append, List.append_nil, List.map_cons, List.map_nil, List.length_cons, List.length_nil, Nat.reduceAdd, Nat.reduceSub, List.replicate_succ, List.replicate_zero, List.getElem?_cons_zero, List.getElem?_cons_succ, Option.some.injEq, exists_eq_left, exists_eq_left', exists_eq_right, V.int.injEq, V.bl.injEq, V.str.injEq, V.ref.injEq, true_and, and_true, exists_and_left, if_true, if_false, gTup, gCons, gNil, gSub, gName, Mk.rSetD, List.set_cons_zero, List.set_cons_succ, Bool.false_eq_true, List.cons.injEq, Bool.not_true, Bool.not_false, eq_self, decide_true, decide_false, c3, N_fitted]
    refine ⟨v, ds, rfl, hv, hg, fun H1 a ks g1 ha plv pts => ?_⟩
    obtain ⟨xs, hx, pr⟩ := plv
    have lks : ks.length ≤ 121 := by
      refine Nat.le_trans (nodup_len pts.1 (fun k hk => (pts.2 k).mp hk)) ?_
      have := hg.1
      rw [allPts_len]; omega
    refine (?_ : tDcP P w K _ _ _ _ _ _ _ _ ?QQ)
    refine ⟨_, rfl, a, rfl, ⟨_, .inl (.inl hx)⟩, ?_⟩
    refine dc_pts (P := P) (w := w) (Q := ?QQ) (te := tC (.int 0)) (j := 3) (σ := [some v, some (.ref a), none, none]) (Nat.le_refl 4) hx pr pts.1 (Nat.le_trans lks (by decide)) (g := fun _ => 0) (fun _ _ _ _ _ _ _ h => h) fun H2 dn g2 hdn hD => ?_
    have g12 := g1.trans g2
    refine ⟨v, dn, ds, zerosM ks, rfl, hv.keep g12.tk, hg, hD, by rw [zerosM, List.length_map]; omega, fun H3 p dt ks' g3 hp hdt hS pts' hN hSt => ?_⟩
    have g3' : Gx H1 H3 := fun b o hb => g3 b o (fun z => by subst z; rw [hb] at hdn; cases hdn) (g2 _ _ hb)
    have hlen : ks'.length = ks.length := Nat.le_antisymm (nodup_len pts'.1 fun k hk => (pts.2 k).mpr ((pts'.2 k).mp hk)) (nodup_len pts.1 fun k hk => (pts'.2 k).mpr ((pts.2 k).mp hk))
    have hk : ks.length < ks'.length + (zerosM ks).length + 1 := by omega
    have iff := settled_iff pts hk
    have sol := fun h => settled_sol pts (k := ks'.length + (zerosM ks).length + 1) h
    have kee := fun (k : PK) (h : k ∈ ks) => keep_some (ds := ds) (S := []) (k := ks'.length + (zerosM ks).length + 1) (zeros_look h)
    refine ⟨p, _, 1, _, rfl, rfl, hS, atI_nat (j := 1) rfl, _, rfl, ?_⟩
    generalize settledM ds (ks'.length + (zerosM ks).length + 1) (zerosM ks) [] = st at *
    by_cases hf : FitM ds
    · rw [iff.mpr hf, if_neg Bool.false_ne_true]
      have z0 : zeroP ∈ ks := (pts.2 _).mpr List.mem_cons_self
      obtain ⟨c, hc, _⟩ := kee _ z0
      refine ⟨_, rfl, a, rfl, ⟨_, .inl (.inl (g3' _ _ hx))⟩, ?_⟩
      refine dc_pts (P := P) (w := w) (Q := Q) (te := tOp (rI0 fun i j => V.int (i - j)) (tOp (Mk.rIxD P w K) (tVar 2) (tVar 3)) (tOp (Mk.rIxD P w K) (tVar 2) (tC (V.str "")))) (j := 3) (σ := [some v, some (.ref a), some (.ref dn), none]) (Nat.le_refl 4) (g3' _ _ hx) (Paired.mapP pr fun _ _ z => z.keep g3'.tk) pts.1 (Nat.le_trans lks (by decide))
        (g := fun k => (lookA st.1 k).getD 0 - (lookA st.1 zeroP).getD 0) (fun k hkk x H' R g kx hR => ?_) fun H4 D g4 hD4 hd4 => ?_
      · obtain ⟨b, hb, _⟩ := kee k hkk
        rw [hb, hc] at hR
        exact ⟨_, rfl, _, rfl, dn, _, k, .int b, rfl, (g.dicW hN).r, kx, by rw [VM_look, hb]; rfl, _, rfl, dn, _, zeroP, .int c, rfl, (g.dicW hN).r, rfl, by rw [VM_look, hc]; rfl, _, _, rfl, rfl, hR⟩
      · refine q2 hf H4 D ks _ ((g1.trans g3').trans g4) ((g1.trans g3').free hD4) pts hd4 (fun d hd => ?_) (Int.sub_self _)
        have := sol (iff.mpr hf) d hd
        dsimp only at this ⊢
        omega
    · have hb : st.2.2 = true := Bool.not_eq_false _ ▸ fun z => hf (iff.mp z)
      rw [hb, if_pos rfl]
      exact q1 hf H3 (g1.trans g3')
def spBnd (K : PySem.W.Frag) : Sp := fun vs H Q _ => ∃ v x y ds one other, vs = [v, x, y] ∧ DsV K H ds v ∧ GoodDs ds ∧ KyV K H one x ∧ KyV K H other y ∧ FitM ds ∧
  ∀ H' o, Gx H H' → BoundM ds one other o → Q (o.elim .non .int) H'
theorem C_bound_of (T : Tops mg) (D : Def K mg "bound_of" s_bound_of ["differences", "one", "other"]) (C_settled : Cal P w K mg base "settled" 2 ["differences", "numbers"] (spSet P w K)) : Cal P w K mg base "bound_of" 3 ["differences", "one", "other"] (spBnd K) := by
  refine Cal.of D sc_bound_of (fun vs H Q E h => ?_) (fun f cdv A outer s H vs Q E hr h => ?_)
  · obtain ⟨v, x, y, ds, one, other, rfl, _⟩ := h; rfl
  · obtain ⟨v, x, y, ds, one, other, rfl, hv, hg, hx, hy, hf, q⟩ := h
    have hu := hu_of hr
    have h0 := hr.units0
    refine ⟨_, (pss_cons (ps_set (i := 3) sc_bound_of.nd rfl (Or.inl rfl) (pe_disp1 h0 (pv 2) pe_int))
      (pss_cons (ps_expr (pe_cal C_settled hr (by decide) (by rfl) (pa_cons (pv 0) (pa_cons (pv 3) pa_nil))))
      (pss_one (ps_ret (pe_dmeth PySem.F.plainAttrs_dict PySem.F.slot_dict_get PySem.F.type_dict_get (mt_dget hu) (pv 3) (pa_cons (pv 1) pa_nil)))))), ?_⟩
    simp only [cxOf, Cx.nox, L2.start, tRet, tAndV, tOrV, tNotV, tCB, tCons, tNil, tVar, tC, tOp, tUn, tChain, tIfS, tTest, tSeq, tNext, tB, tOr, tAnd, tNot, tAsg, tDrop, tCall, rI0, rI, rU, List.cons_append, List.nil_append, List.append_nil, List.map_cons, List.map_nil, List.length_cons, List.length_nil, Nat.reduceAdd, Nat.reduceSub, List.replicate_succ, List.replicate_zero, List.getElem?_cons_zero, List.getElem?_cons_succ, Option.some.injEq, exists_eq_left, exists_eq_left', exists_eq_right, V.int.injEq, V.bl.injEq, V.str.injEq, V.ref.injEq, true_and, and_true, exists_and_left, if_true, if_false, gTup, gCons, gNil, gSub, gName, Mk.rSetD, List.set_cons_zero, List.set_cons_succ, Bool.false_eq_true, List.cons.injEq, Bool.not_true, Bool.not_false, eq_self, decide_true, decide_false, c3, N_bound_of, tDisp1]
    intro dn u hdn hd0
    refine ⟨other, hy.keep (Gx.new hdn).tk, hd0, fun u2 hd1 => ?_⟩
    rw [upd_upd] at hd1 ⊢
    have g1 : Gx H (upd H dn u2) := .new hdn
    refine ⟨v, dn, ds, [(other, 0)], rfl, hv.keep g1.tk, hg, hd1, by simp, fun H3 p dt ks g3 hp hdt hS pts hN hSt => ?_⟩
    have g3' : Gx H H3 := fun b o hb => g3 b o (fun z => by subst z; rw [hb] at hdn; cases hdn) (g1 _ _ hb)
    have bd := settled_bound pts (k := ks.length + [(other, (0 : Int))].length + 1) (by simp; omega) hf one other
    refine ⟨_, rfl, ⟨dn, _, rfl, hN.r⟩, _, rfl, dn, _, one, x, rfl, rfl, hN.r, hx.keep g3'.tk, ?_⟩
    rw [VM_look]
    have := q H3 _ g3' bd
    generalize lookA (settledM ds (ks.length + [(other, (0 : Int))].length + 1) [(other, 0)] []).1 one = o at this ⊢
    cases o <;> exact this
def spFitting (P : Program) (w : World) (K : PySem.W.Frag) : Sp := spFit P w K
theorem C_fitting (T : Tops mg) (D : Def K mg "fitting" s_fitting ["differences"]) (C_require_differences : Cal P w K mg base "require_differences" 5 ["value"] (spReqD K)) (C_fitted : Cal P w K mg base "fitted" 3 ["differences"] (spFit P w K)) : Cal P w K mg base "fitting" 6 ["differences"] (spFit P w K) := by
  refine Cal.of D sc_fitting (fun vs H Q E h => ?_) (fun f cdv A outer s H vs Q E hr h => ?_)
  · obtain ⟨v, ds, rfl, _⟩ := h; rfl
  · obtain ⟨v, ds, rfl, hv, hg, q1, q2⟩ := h
    have hu := hu_of hr
    have h0 := hr.units0
    refine ⟨_, (pss_cons (ps_expr (pe_cal C_require_differences hr (by decide) (by rfl) (pa_cons (pv 0) pa_nil)))
      (pss_one (ps_ret (pe_cal C_fitted hr (by decide) (by rfl) (pa_cons (pv 0) pa_nil))))), ?_⟩
    simp only [cxOf, Cx.nox, L2.start, tRet, tAndV, tOrV, tNotV, tCB, tCons, tNil, tVar, tC, tOp, tUn, tChain, tIfS, tTest, tSeq, tNext, tB, tOr, tAnd, tNot, tAsg, tDrop, tCall, rI0, rI, rU, List.cons_append, List.nil_append, List.append_nil, List.map_cons, List.map_nil, List.length_cons, List.length_nil, Nat.reduceAdd, Nat.reduceSub, List.replicate_succ, List.replicate_zero, List.getElem?_cons_zero, List.getElem?_cons_succ, Option.some.injEq, exists_eq_left, exists_eq_left', exists_eq_right, V.int.injEq, V.bl.injEq, V.str.injEq, V.ref.injEq, true_and, and_true, exists_and_left, if_true, if_false, gTup, gCons, gNil, gSub, gName, Mk.rSetD, List.set_cons_zero, List.set_cons_succ, Bool.false_eq_true, List.cons.injEq, Bool.not_true, Bool.not_false, eq_self, decide_true, decide_false, c3, N_fitting]
    exact ⟨v, ds, rfl, hv, hg, fun H1 g1 => ⟨v, ds, rfl, hv.keep g1.tk, hg, fun hf H2 g2 => q1 hf H2 (g1.trans g2), fun hf H2 p ks g g2 hp pts hd hs hz => q2 hf H2 p ks g (g1.trans g2) (g1.free hp) pts hd hs hz⟩⟩
theorem C_ring (T : Tops mg) (D : Def K mg "ring" s_ring ["differences"]) (C_require_differences : Cal P w K mg base "require_differences" 5 ["value"] (spReqD K)) (C_ring_of : Cal P w K mg base "ring_of" 3 ["differences"] (spRof K)) : Cal P w K mg base "ring" 6 ["differences"] (spRof K) := by
  refine Cal.of D sc_ring (fun vs H Q E h => ?_) (fun f cdv A outer s H vs Q E hr h => ?_)
  · obtain ⟨v, ds, rfl, _⟩ := h; rfl
  · obtain ⟨v, ds, rfl, hv, hg, q1, q2⟩ := h
    have hu := hu_of hr
    have h0 := hr.units0
    refine ⟨_, (pss_cons (ps_expr (pe_cal C_require_differences hr (by decide) (by rfl) (pa_cons (pv 0) pa_nil)))
      (pss_one (ps_ret (pe_cal C_ring_of hr (by decide) (by rfl) (pa_cons (pv 0) pa_nil))))), ?_⟩
    simp only [cxOf, Cx.nox, L2.start, tRet, tAndV, tOrV, tNotV, tCB, tCons, tNil, tVar, tC, tOp, tUn, tChain, tIfS, tTest, tSeq, tNext, tB, tOr, tAnd, tNot, tAsg, tDrop, tCall, rI0, rI, rU, List.cons_append, List.nil_append, List.append_nil, List.map_cons, List.map_nil, List.length_cons, List.length_nil, Nat.reduceAdd, Nat.reduceSub, List.replicate_succ, List.replicate_zero, List.getElem?_cons_zero, List.getElem?_cons_succ, Option.some.injEq, exists_eq_left, exists_eq_left', exists_eq_right, V.int.injEq, V.bl.injEq, V.str.injEq, V.ref.injEq, true_and, and_true, exists_and_left, if_true, if_false, gTup, gCons, gNil, gSub, gName, Mk.rSetD, List.set_cons_zero, List.set_cons_succ, Bool.false_eq_true, List.cons.injEq, Bool.not_true, Bool.not_false, eq_self, decide_true, decide_false, c3, N_ring]
    exact ⟨v, ds, rfl, hv, hg, fun H1 g1 => ⟨v, ds, rfl, hv.keep g1.tk, hg, fun hf H2 g2 => q1 hf H2 (g1.trans g2), fun hf H2 p rs g2 hp hs => q2 hf H2 p rs (g1.trans g2) (g1.free hp) hs⟩⟩
def spTig (K : PySem.W.Frag) : Sp := fun vs H Q _ => ∃ v x y ds one other, vs = [v, x, y] ∧ DsV K H ds v ∧ GoodDs ds ∧ KyV K H one x ∧ KyV K H other y ∧ GoodP one ∧ GoodP other ∧ FitM ds ∧
  ∀ H' o, Gx H H' → BoundM ds one other o → Q (o.elim .non .int) H'
theorem C_tightest (T : Tops mg) (D : Def K mg "tightest" s_tightest ["differences", "one", "other"]) (C_require_differences : Cal P w K mg base "require_differences" 5 ["value"] (spReqD K)) (C_require_point : Cal P w K mg base "require_point" 4 ["value"] (spReqP K)) (C_fitted : Cal P w K mg base "fitted" 3 ["differences"] (spFit P w K)) (C_bound_of : Cal P w K mg base "bound_of" 3 ["differences", "one", "other"] (spBnd K)) : Cal P w K mg base "tightest" 6 ["differences", "one", "other"] (spTig K) := by
  refine Cal.of D sc_tightest (fun vs H Q E h => ?_) (fun f cdv A outer s H vs Q E hr h => ?_)
  · obtain ⟨v, x, y, ds, one, other, rfl, _⟩ := h; rfl
  · obtain ⟨v, x, y, ds, one, other, rfl, hv, hg, hx, hy, gx, gy, hf, q⟩ := h
    have hu := hu_of hr
    have h0 := hr.units0
    refine ⟨_, (pss_cons (ps_expr (pe_cal C_require_differences hr (by decide) (by rfl) (pa_cons (pv 0) pa_nil)))
      (pss_cons (ps_expr (pe_cal C_require_point hr (by decide) (by rfl) (pa_cons (pv 1) pa_nil)))
      (pss_cons (ps_expr (pe_cal C_require_point hr (by decide) (by rfl) (pa_cons (pv 2) pa_nil)))
      (pss_cons (ps_if (pt_cmpR op_isN (pe_cal C_fitted hr (by decide) (by rfl) (pa_cons (pv 0) pa_nil)) pe_non (nomark _)) (pss_one ps_never) pss_nil)
      (pss_one (ps_ret (pe_cal C_bound_of hr (by decide) (by rfl) (pa_cons (pv 0) (pa_cons (pv 1) (pa_cons (pv 2) pa_nil)))))))))), ?_⟩
    simp only [cxOf, Cx.nox, L2.start, tRet, tAndV, tOrV, tNotV, tCB, tCons, tNil, tVar, tC, tOp, tUn, tChain, tIfS, tTest, tSeq, tNext, tB, tOr, tAnd, tNot, tAsg, tDrop, tCall, rI0, rI, rU, List.cons_append, List.nil_append, List.append_nil, List.map_cons, List.map_nil, List.length_cons, List.length_nil, Nat.reduceAdd, Nat.reduceSub, List.replicate_succ, List.replicate_zero, List.getElem?_cons_zero, List.getElem?_cons_succ, Option.some.injEq, exists_eq_left, exists_eq_left', exists_eq_right, V.int.injEq, V.bl.injEq, V.str.injEq, V.ref.injEq, true_and, and_true, exists_and_left, if_true, if_false, gTup, gCons, gNil, gSub, gName, Mk.rSetD, List.set_cons_zero, List.set_cons_succ, Bool.false_eq_true, List.cons.injEq, Bool.not_true, Bool.not_false, eq_self, decide_true, decide_false, c3, N_tightest]
    refine ⟨v, ds, rfl, hv, hg, fun H1 g1 => ?_⟩
    refine ⟨x, one, rfl, hx.keep g1.tk, gx, fun H2 g2 => ?_⟩
    have g12 := g1.trans g2
    refine ⟨y, other, rfl, hy.keep g12.tk, gy, fun H3 g3 => ?_⟩
    have g13 := g12.trans g3
    refine ⟨v, ds, rfl, hv.keep g13.tk, hg, fun h => absurd hf h, fun _ H4 p ks g g4 hp pts hd hs hz => ?_⟩
    have g14 := g13.trans g4
    dsimp only
    rw [if_neg (by simp)]
    exact ⟨v, x, y, ds, one, other, rfl, hv.keep g14.tk, hg, hx.keep g14.tk, hy.keep g14.tk, hf, fun H5 o g5 bd => q H5 o (g14.trans g5) bd⟩
def spIsf (P : Program) (w : World) (K : PySem.W.Frag) : Sp := fun vs H Q _ => ∃ v dn ds N f, vs = [v, .ref dn] ∧ DsV K H ds v ∧ GoodDs ds ∧ DicR P w K H dn (IM N) ∧ (N.map (·.1)).Nodup ∧ (∀ k, k ∈ N.map (·.1) ↔ k ∈ allPts ds) ∧ (∀ k ∈ N.map (·.1), lookA N k = some (f k)) ∧ (∀ k ∈ N.map (·.1), -(10 ^ 60) < f k ∧ f k < 10 ^ 60) ∧ f zeroP = 0 ∧ Sol ds f ∧
  ∀ H', Gx H H' → Q (.bl true) H'
theorem C_is_fitting (T : Tops mg) (D : Def K mg "is_fitting" s_is_fitting ["differences", "value"]) (C_require_differences : Cal P w K mg base "require_differences" 5 ["value"] (spReqD K)) (C_points_of : Cal P w K mg base "points_of" 1 ["differences"] (spPts K)) (C_is_integer : Cal P w K mg base "is_integer" 1 ["value"] spIsInt) : Cal P w K mg base "is_fitting" 6 ["differences", "value"] (spIsf P w K) := by
  refine Cal.of D sc_is_fitting (fun vs H Q E h => ?_) (fun f cdv A outer s H vs Q E hr h => ?_)
  · obtain ⟨v, dn, ds, N, f, rfl, _⟩ := h; rfl
  · obtain ⟨v, dn, ds, N, f, rfl, hv, hg, hN, nd, hk, hl, hb, hz, sol, q⟩ := h
    have hu := hu_of hr
    have h0 := hr.units0
    refine ⟨_, (pss_cons (ps_expr (pe_cal C_require_differences hr (by decide) (by rfl) (pa_cons (pv 0) pa_nil)))
      (pss_cons (ps_set (i := 2) sc_is_fitting.nd rfl (Or.inl rfl) (pe_cal C_points_of hr (by decide) (by rfl) (pa_cons (pv 0) pa_nil)))
      (pss_cons (ps_if (PW.pt (pw_or (pt_not (pt_val (pe_callB (call_isA' (P := P) (w := w) (K := K) rfl rfl rfl) (by rfl) T.b_isinstance (by decide +kernel) (pa_cons (pv 1) (pa_cons (pe_bltn (v := .ty "dict") (u := .type "dict") (by rfl) T.b_dict (by decide +kernel) rfl) pa_nil))))) (pw_or (pt_cmpR op_ne (pe_callB call_lenD (by rfl) T.b_len (by decide +kernel) (pa_cons (pv 1) pa_nil)) (pe_callB call_len_seq (by rfl) T.b_len (by decide +kernel) (pa_cons (pv 2) pa_nil)) (nomark _)) (pw_or1 (pt_not (pt_val (pe_callB (cr_all rfl) (by rfl) T.b_all (by decide +kernel) (pa_cons (pe_lc (own := [("point", 3)]) rfl sc_is_fitting.nd (pi_list (pv 2)) (blkOk_by (own := [("point", 3)]) (N := N_is_fitting) (sc := defScope s_is_fitting) (by decide +kernel)) (fun _ _ _ _ _ => (pg_name (i := 3) sc_is_fitting.nd rfl (Or.inl rfl))) (fun _ _ _ _ _ => pts_nil) (fun _ _ _ _ _ => (pe_cmpR (op_inD' hu (P := P) (w := w) (K := K) rfl rfl rfl) (pv 3) (pv 1) (by rfl)))) pa_nil)))))))) (pss_one (ps_ret pe_bl)) pss_nil)
      (pss_cons (ps_if (PW.pt (pw_or (pt_not (pt_val (pe_callB (cr_all rfl) (by rfl) T.b_all (by decide +kernel) (pa_cons (pe_lc (own := [("point", 3)]) rfl sc_is_fitting.nd (pi_list (pv 2)) (blkOk_by (own := [("point", 3)]) (N := N_is_fitting) (sc := defScope s_is_fitting) (by decide +kernel)) (fun _ _ _ _ _ => (pg_name (i := 3) sc_is_fitting.nd rfl (Or.inl rfl))) (fun _ _ _ _ _ => pts_nil) (fun _ _ _ _ _ => (pe_cal C_is_integer hr (by decide) (by rfl) (pa_cons (pe_ix (ix_dic' hu (P := P) (w := w) (K := K) rfl rfl rfl) (pv 1) (pv 3) (fun _ _ => rfl)) pa_nil)))) pa_nil)))) (pw_or1 (pt_cmpR op_ne (pe_ix (ix_dic' hu (P := P) (w := w) (K := K) rfl rfl rfl) (pv 1) (pe_const T.c_ZERO (by rfl)) (fun _ _ => rfl)) pe_int (nomark _))))) (pss_one (ps_ret pe_bl)) pss_nil)
      (pss_one (ps_ret (pe_callB (cr_all rfl) (by rfl) T.b_all (by decide +kernel) (pa_cons (pe_lc (own := [("one", 4), ("other", 5), ("number", 6)]) rfl sc_is_fitting.nd (pi_tup (pv 0)) (blkOk_by (own := [("one", 4), ("other", 5), ("number", 6)]) (N := N_is_fitting) (sc := defScope s_is_fitting) (by decide +kernel)) (fun _ _ _ _ _ => (pg_tupB (K := K) (n := 3) rfl rfl (pgs_cons (pg_name (i := 4) sc_is_fitting.nd rfl (Or.inl rfl) (Or.inr rfl)) (pgs_cons (pg_name (i := 5) sc_is_fitting.nd rfl (Or.inl rfl) (Or.inr rfl)) (pgs_cons (pg_name (i := 6) sc_is_fitting.nd rfl (Or.inl rfl) (Or.inr rfl)) pgs_nil))))) (fun _ _ _ _ _ => pts_nil) (fun _ _ _ _ _ => (pe_cmpR op_le (pe_op op_sub (pe_ix (ix_dic' hu (P := P) (w := w) (K := K) rfl rfl rfl) (pv 1) (pv 4) (fun _ _ => rfl)) (pe_ix (ix_dic' hu (P := P) (w := w) (K := K) rfl rfl rfl) (pv 1) (pv 5) (fun _ _ => rfl))) (pv 6) (nomark _)))) pa_nil)))))))), ?_⟩
    simp only [cxOf, Cx.nox, L2.start, tRet, tAndV, tOrV, tNotV, tCB, tCons, tNil, tVar, tC, tOp, tUn, tChain, tIfS, tTest, tSeq, tNext, tB, tOr, tAnd, tNot, tAsg, tDrop, tCall, rI0, rI, rU, List.cons_append, List.nil_append, List.append_nil, List.map_cons, List.map_nil, List.length_cons, List.length_nil, Nat.reduceAdd, Nat.reduceSub, List.replicate_succ, List.replicate_zero, List.getElem?_cons_zero, List.getElem?_cons_succ, Option.some.injEq, exists_eq_left, exists_eq_left', exists_eq_right, V.int.injEq, V.bl.injEq, V.str.injEq, V.ref.injEq, true_and, and_true, exists_and_left, if_true, if_false, gTup, gCons, gNil, gSub, gName, Mk.rSetD, List.set_cons_zero, List.set_cons_succ, Bool.false_eq_true, List.cons.injEq, Bool.not_true, Bool.not_false, eq_self, decide_true, decide_false, c3, N_is_fitting]
    refine ⟨v, ds, rfl, hv, hg, fun H1 g1 => ⟨v, ds, rfl, hv.keep g1.tk, hg, fun H2 a ks g2 ha plv pts => ?_⟩⟩
    obtain ⟨xs, hx, pr⟩ := plv
    have g12 := g1.trans g2
    have dR : ∀ {H'}, Gx H2 H' → DicR P w K H' dn (IM N) := fun g => (g12.trans g).dicR hN
    have nk : ∀ k, k ∈ ks ↔ k ∈ N.map (·.1) := fun k => by rw [pts.2, hk]
    have hlen : N.length = xs.length := by
      rw [← Paired.length pr]
      have h1 := nodup_len nd (r := ks) fun k hh => (nk k).mpr hh
      have h2 := nodup_len pts.1 (r := N.map (·.1)) fun k hh => (nk k).mp hh
      rw [List.length_map] at h1 h2
      omega
    have lks : xs.length ≤ 121 := by
      rw [← Paired.length pr]
      refine Nat.le_trans (nodup_len pts.1 (fun k hk => (pts.2 k).mp hk)) ?_
      have := hg.1
      rw [allPts_len]; omega
    have get : ∀ {k x H'} {R : VK}, Gx H2 H' → k ∈ ks → KyV K H' k x → R (.int (f k)) H' → Mk.rIxD P w K (.ref dn) x H' R := fun g hkk kx r => ⟨dn, _, _, _, rfl, dR g, kx, by rw [VM_look, hl _ ((nk _).mp hkk)]; rfl, r⟩
    refine isA (.dic (dR .refl)) rfl ?_
    simp only [cxOf, Cx.nox, L2.start, tRet, tAndV, tOrV, tNotV, tCB, tCons, tNil, tVar, tC, tOp, tUn, tChain, tIfS, tTest, tSeq, tNext, tB, tOr, tAnd, tNot, tAsg, tDrop, tCall, rI0, rI, rU, List.cons_append, List.nil_append, List.append_nil, List.map_cons, List.map_nil, List.length_cons, List.length_nil, Nat.reduceAdd, Nat.reduceSub, List.replicate_succ, List.replicate_zero, List.getElem?_cons_zero, List.getElem?_cons_succ, Option.some.injEq, exists_eq_left, exists_eq_left', exists_eq_right, V.int.injEq, V.bl.injEq, V.str.injEq, V.ref.injEq, true_and, and_true, exists_and_left, if_true, if_false, gTup, gCons, gNil, gSub, gName, Mk.rSetD, List.set_cons_zero, List.set_cons_succ, Bool.false_eq_true, List.cons.injEq, Bool.not_true, Bool.not_false, eq_self, decide_true, decide_false, c3]
    refine ⟨dn, _, rfl, dR .refl, xs, .inl (.inl (.inl hx)), rfl, ?_⟩
    rw [VM_len, hlen]
    refine ⟨false, by simp, ?_⟩
    simp only [cxOf, Cx.nox, L2.start, tRet, tAndV, tOrV, tNotV, tCB, tCons, tNil, tVar, tC, tOp, tUn, tChain, tIfS, tTest, tSeq, tNext, tB, tOr, tAnd, tNot, tAsg, tDrop, tCall, rI0, rI, rU, List.cons_append, List.nil_append, List.append_nil, List.map_cons, List.map_nil, List.length_cons, List.length_nil, Nat.reduceAdd, Nat.reduceSub, List.replicate_succ, List.replicate_zero, List.getElem?_cons_zero, List.getElem?_cons_succ, Option.some.injEq, exists_eq_left, exists_eq_left', exists_eq_right, V.int.injEq, V.bl.injEq, V.str.injEq, V.ref.injEq, true_and, and_true, exists_and_left, if_true, if_false, gTup, gCons, gNil, gSub, gName, Mk.rSetD, List.set_cons_zero, List.set_cons_succ, Bool.false_eq_true, List.cons.injEq, Bool.not_true, Bool.not_false, eq_self, decide_true, decide_false, c3]
    refine (?_ : tLc _ _ _ _ _ _ _ _)
    refine ⟨_, rfl, a, rfl, ⟨_, .inl (.inl hx)⟩, fun D hD => lc_it (walk_list (xs := xs)) (PvG H2 D (AMap xs fun _ => V.bl true)) (PvG.ini hD .ini) (fun _ _ _ h => h.1.seqL (.inl (.inl hx))) (fun i x H3 H4 hi hP hY => ?_) (fun H3 hP => ?_)⟩
    · obtain ⟨rfl, hx⟩ := hY
      obtain ⟨g, ys, e, a⟩ := hP
      obtain ⟨k, hkk, kx⟩ := pair_at pr hx
      refine ⟨rfl, _, rfl, _, rfl, dn, _, k, rfl, dR g, kx.keep g.tk, ?_⟩
      rw [VM_look, hl k ((nk k).mp (List.mem_of_getElem? hkk))]
      exact PvG.put g hD e (line_lt (a.len lks) (by decide)) (a.put hx)
    obtain ⟨g, ys, e, am⟩ := hP
    refine ⟨D, xs.map fun _ => true, rfl, .inl (.inl (by rw [e, am.fin, List.map_map]; rfl)), ?_⟩
    rw [all_bl, show (xs.all fun _ => true) = true by simp]
    simp only [cxOf, Cx.nox, L2.start, tRet, tAndV, tOrV, tNotV, tCB, tCons, tNil, tVar, tC, tOp, tUn, tChain, tIfS, tTest, tSeq, tNext, tB, tOr, tAnd, tNot, tAsg, tDrop, tCall, rI0, rI, rU, List.cons_append, List.nil_append, List.append_nil, List.map_cons, List.map_nil, List.length_cons, List.length_nil, Nat.reduceAdd, Nat.reduceSub, List.replicate_succ, List.replicate_zero, List.getElem?_cons_zero, List.getElem?_cons_succ, Option.some.injEq, exists_eq_left, exists_eq_left', exists_eq_right, V.int.injEq, V.bl.injEq, V.str.injEq, V.ref.injEq, true_and, and_true, exists_and_left, if_true, if_false, gTup, gCons, gNil, gSub, gName, Mk.rSetD, List.set_cons_zero, List.set_cons_succ, Bool.false_eq_true, List.cons.injEq, Bool.not_true, Bool.not_false, eq_self, decide_true, decide_false, c3]
    have hx3 := g _ _ hx
    have pr3 := Paired.mapP pr fun _ _ z => z.keep g.tk
    refine ⟨_, rfl, a, rfl, ⟨_, .inl (.inl hx3)⟩, fun D2 hD2 => lc_it (walk_list (xs := xs)) (PvG H3 D2 (AMap xs fun _ => V.bl true)) (PvG.ini hD2 .ini) (fun _ _ _ h => h.1.seqL (.inl (.inl hx3))) (fun i x H5 H6 hi hP hY => ?_) (fun H4 hP => ?_)⟩
    · obtain ⟨rfl, hxx⟩ := hY
      obtain ⟨g4, ys, e, a⟩ := hP
      obtain ⟨k, hkk, kx⟩ := pair_at pr3 hxx
      have kn := (nk k).mp (List.mem_of_getElem? hkk)
      refine ⟨rfl, _, rfl, _, rfl, get (g.trans g4) (List.mem_of_getElem? hkk) (kx.keep g4.tk) ⟨_, rfl, (hb k kn).1, (hb k kn).2, ?_⟩⟩
      exact PvG.put g4 hD2 e (line_lt (a.len lks) (by decide)) (a.put hxx)
    obtain ⟨g4, ys4, e4, am4⟩ := hP
    refine ⟨D2, xs.map fun _ => true, rfl, .inl (.inl (by rw [e4, am4.fin, List.map_map]; rfl)), ?_⟩
    rw [all_bl, show (xs.all fun _ => true) = true by simp]
    simp only [cxOf, Cx.nox, L2.start, tRet, tAndV, tOrV, tNotV, tCB, tCons, tNil, tVar, tC, tOp, tUn, tChain, tIfS, tTest, tSeq, tNext, tB, tOr, tAnd, tNot, tAsg, tDrop, tCall, rI0, rI, rU, List.cons_append, List.nil_append, List.append_nil, List.map_cons, List.map_nil, List.length_cons, List.length_nil, Nat.reduceAdd, Nat.reduceSub, List.replicate_succ, List.replicate_zero, List.getElem?_cons_zero, List.getElem?_cons_succ, Option.some.injEq, exists_eq_left, exists_eq_left', exists_eq_right, V.int.injEq, V.bl.injEq, V.str.injEq, V.ref.injEq, true_and, and_true, exists_and_left, if_true, if_false, gTup, gCons, gNil, gSub, gName, Mk.rSetD, List.set_cons_zero, List.set_cons_succ, Bool.false_eq_true, List.cons.injEq, Bool.not_true, Bool.not_false, eq_self, decide_true, decide_false, c3]
    refine get (k := zeroP) (g.trans g4) ((pts.2 _).mpr List.mem_cons_self) rfl ⟨rfl, ?_⟩
    rw [hz]
    refine ⟨false, by simp, ?_⟩
    simp only [cxOf, Cx.nox, L2.start, tRet, tAndV, tOrV, tNotV, tCB, tCons, tNil, tVar, tC, tOp, tUn, tChain, tIfS, tTest, tSeq, tNext, tB, tOr, tAnd, tNot, tAsg, tDrop, tCall, rI0, rI, rU, List.cons_append, List.nil_append, List.append_nil, List.map_cons, List.map_nil, List.length_cons, List.length_nil, Nat.reduceAdd, Nat.reduceSub, List.replicate_succ, List.replicate_zero, List.getElem?_cons_zero, List.getElem?_cons_succ, Option.some.injEq, exists_eq_left, exists_eq_left', exists_eq_right, V.int.injEq, V.bl.injEq, V.str.injEq, V.ref.injEq, true_and, and_true, exists_and_left, if_true, if_false, gTup, gCons, gNil, gSub, gName, Mk.rSetD, List.set_cons_zero, List.set_cons_succ, Bool.false_eq_true, List.cons.injEq, Bool.not_true, Bool.not_false, eq_self, decide_true, decide_false, c3]
    obtain ⟨t, ts, rfl, ht, prd⟩ := (hv.keep g12.tk).keep (g.trans g4).tk
    refine ⟨_, rfl, t, rfl, ⟨_, ht⟩, fun D3 hD3 => lc_it (walk_tup (xs := ts)) (PvG H4 D3 (AMap ts fun _ => V.bl true)) (PvG.ini hD3 .ini) (fun _ _ _ h => h.1.seqT ht) (fun i x H5 H6 hi hP hY => ?_) (fun H5 hP => ?_)⟩
    · obtain ⟨rfl, hxx⟩ := hY
      obtain ⟨g5, ys, e, a⟩ := hP
      obtain ⟨d, hd, dx⟩ := pair_at prd hxx
      obtain ⟨p, x1, x2, rfl, hp, k1, k2⟩ := dx.keep g5.tk
      have dm := List.mem_of_getElem? hd
      have g45 := (g.trans g4).trans g5
      refine ⟨p, _, rfl, hp, rfl, _, _, rfl, _, _, rfl, _, _, rfl, rfl, rfl, _, rfl, _, rfl, get g45 (pts_l pts dm) k1 ⟨_, rfl, _, rfl, get g45 (pts_r pts dm) k2 ⟨_, _, rfl, rfl, _, rfl, _, _, rfl, rfl, ?_⟩⟩⟩
      dsimp only
      rw [decide_eq_true (sol d dm)]
      exact PvG.put g5 hD3 e (line_lt (a.len (n := 60) (by rw [← Paired.length prd]; exact hg.1)) (by decide)) (a.put hxx)
    obtain ⟨g5, ys5, e5, am5⟩ := hP
    refine ⟨D3, ts.map fun _ => true, rfl, .inl (.inl (by rw [e5, am5.fin, List.map_map]; rfl)), ?_⟩
    rw [all_bl, show (ts.all fun _ => true) = true by simp]
    exact q _ (g12.trans ((g.trans g4).trans g5))
end
end Mk


set_option Elab.async false
set_option linter.all false
set_option maxRecDepth 100000
set_option maxHeartbeats 400000
/-! the law's keg and draws -/
namespace Mk
open PySem PySem.Spec PyProof.Rows L2
section
variable {P : Program} {w : World} {K : PySem.W.Frag} {mg : Str → Option Value} {base : Heap}
/-- a keg -/
def KegV (H : Hp) (k : Addr) : Prop := ∃ g s n : Int, H k = some (.lst [.int g, .int s, .int n])
theorem cmul_l {i j : Int} (h : -(2 ^ 64) < i ∧ i < 2 ^ 64 := by decide) : CMul i j := .inl h
theorem mod_bd {x m : Int} (h : 0 < m) : 0 ≤ x % m ∧ x % m < m := ⟨Int.emod_nonneg _ (by omega), Int.emod_lt_of_pos _ h⟩
def spKeg (K : PySem.W.Frag) : Sp := fun vs H Q _ => ∃ (a : Addr) (ns : List Int) (i : Int), vs = [.ref a, .int i] ∧ SqL K H a (ns.map V.int) ∧ 0 ≤ i ∧ ∀ p g s, H p = none → Q (.ref p) (upd H p (.lst [.int g, .int s, .int 0]))
theorem C__law_keg (T : Tops mg) (D : Def K mg "_law_keg" s__law_keg ["script", "at"]) : Cal P w K mg base "_law_keg" 1 ["script", "at"] (spKeg K) := by
  refine Cal.of D sc__law_keg (fun vs H Q E h => ?_) (fun f cdv A outer s H vs Q E hr h => ?_)
  · obtain ⟨a, ns, i, rfl, _⟩ := h; rfl
  · obtain ⟨a, ns, i, rfl, hS, i0, q⟩ := h
    have hu := hu_of hr
    have h0 := hr.units0
    refine ⟨_, (pss_cons (ps_set (i := 2) sc__law_keg.nd rfl (Or.inl rfl) (pe_ifExp (pt_cmpR op_lt (pv 1) (pe_callB call_len_seq (by rfl) T.b_len (by decide +kernel) (pa_cons (pv 0) pa_nil)) (nomark _)) (pe_ix ix_list (pv 0) (pv 1) (fun _ _ => rfl)) (pe_op op_add (pe_op op_mul pe_int (pv 1)) pe_int)))
      (pss_cons (ps_set (i := 3) sc__law_keg.nd rfl (Or.inl rfl) (pe_op op_mod (pe_callTy call_int1 (by rfl) T.b_int (by decide +kernel) (pa_cons (pe_callB call_abs (by rfl) T.b_abs (by decide +kernel) (pa_cons (pv 2) pa_nil)) pa_nil)) (pe_op op_powB (pe_op op_powB pe_int pe_int) pe_int)))
      (pss_cons (ps_set (i := 4) sc__law_keg.nd rfl (Or.inl rfl) (pe_op op_mod (pe_callTy call_int1 (by rfl) T.b_int (by decide +kernel) (pa_cons (pe_op op_add (pe_op op_add (pe_op op_add (pv 3) (pe_op op_mul pe_int (pv 1))) (pe_op op_mul pe_int (pe_callTy call_int1 (by rfl) T.b_int (by decide +kernel) (pa_cons (pe_cmpR op_lt (pv 2) pe_int (nomark _)) pa_nil)))) pe_int) pa_nil)) (pe_op op_add (pe_op op_powB pe_int pe_int) pe_int)))
      (pss_one (ps_ret (pe_lst (pa_cons (pe_ifExp (pt_cmpR op_gt (pv 3) (pe_op op_powB pe_int pe_int) (nomark _)) (pe_op op_sub (pv 3) (pe_op op_powB pe_int pe_int)) pe_int) (pa_cons (pv 4) (pa_cons pe_int pa_nil))))))))), ?_⟩
    have cell : ∀ {σ : L2.St} {H' : Hp} {R : VK}, σ[0]? = some (some (.ref a)) → σ[1]? = some (some (.int i)) → SqL K H' a (ns.map V.int) → (∀ c, R (.int c) H') → tIf (tTest (tOp (rI0 fun i j => V.bl (decide (i < j))) (tVar 1) (tCB (fun xs H Q => ∃ p, xs = [V.ref p] ∧ ∃ x, (SqL K H p x ∨ SqT K H p x) ∧ Q (V.int ↑x.length) H) (tCons (tVar 0) tNil)))) (tOp (rIxL K) (tVar 0) (tVar 1))
        (tOp (rI0 fun i j => V.int (i + j)) (tOp (rI CMul fun i j => V.int (i * j)) (tC (V.int 61)) (tVar 1)) (tC (V.int 37))) σ H' R := by
      intro σ H' R h1 h2 h3 hq
      refine ⟨_, h2, _, h1, a, rfl, _, .inl h3, _, _, rfl, rfl, _, rfl, ?_⟩
      by_cases c : i < (ns.map V.int).length
      · rw [decide_eq_true c]
        dsimp only
        rw [if_pos rfl]
        rw [List.length_map] at c
        have hl : i.toNat < ns.length := by omega
        refine ⟨_, h1, _, h2, a, _, i, .int ns[i.toNat], rfl, rfl, h3, ?_, hq _⟩
        have := atI_nat (xs := ns.map V.int) (j := i.toNat) (v := .int ns[i.toNat]) (by rw [List.getElem?_map, List.getElem?_eq_getElem hl]; rfl)
        rwa [Int.toNat_of_nonneg i0] at this
      · rw [decide_eq_false c]
        dsimp only
        rw [if_neg Bool.false_ne_true]
        exact ⟨_, h2, _, _, rfl, rfl, cmul_l, _, _, rfl, rfl, hq _⟩
    simp only [cxOf, Cx.nox, L2.start, tRet, tAndV, tOrV, tNotV, tCB, tCons, tNil, tVar, tC, tOp, tUn, tChain, tIfS, tTest, tSeq, tNext, tB, tOr, tAnd, tNot, tAsg, tDrop, tCall, rI0, rI, rU, List.cons_append, List.nil_append, List.append_nil, List.map_cons, List.map_nil, List.length_cons, List.length_nil, Nat.reduceAdd, Nat.reduceSub, List.replicate_succ, List.replicate_zero, List.getElem?_cons_zero, List.getElem?_cons_succ, Option.some.injEq, exists_eq_left, exists_eq_left', exists_eq_right, V.int.injEq, V.bl.injEq, V.str.injEq, V.ref.injEq, true_and, and_true, exists_and_left, if_true, if_false, gTup, gCons, gNil, gSub, gName, Mk.rSetD, List.set_cons_zero, List.set_cons_succ, Bool.false_eq_true, List.cons.injEq, Bool.not_true, Bool.not_false, eq_self, decide_true, decide_false, c3, N__law_keg]
    refine cell rfl rfl hS fun c => ⟨_, rfl, ?_⟩
    refine .inl ⟨by decide, by decide, ?_, cmul_l, _, rfl, .inr ⟨cmul_l, .inl ⟨by decide, by decide, ?_⟩⟩⟩
    · exact Int.pow_pos (Int.pow_pos (by decide))
    generalize (if c < 0 then -c else c) % (10 ^ Int.toNat 60) ^ Int.toNat 8 = g
    generalize ((g + 6700417 * i + 67867967 * (if decide (c < 0) = true then 1 else 0) + 7) % (10 ^ Int.toNat 18 + 9) : Int) = sd
    have pw : ∀ {σ : L2.St} {R : VK}, R (.int (10 ^ Int.toNat 18)) H → (tOp (rI (fun i j => 0 ≤ j ∧ ↑(Builtin.Int.intBits i) * j ≤ 2 ^ 27) fun i j => V.int (i ^ j.toNat)) (tC (V.int 10)) (tC (V.int 18))) σ H R :=
      fun hq => ⟨_, _, rfl, rfl, by decide, hq⟩
    refine ⟨_, rfl, pw ⟨_, _, rfl, rfl, _, rfl, ?_⟩⟩
    by_cases c2 : 10 ^ Int.toNat 18 < g
    · rw [decide_eq_true c2]
      exact ⟨_, rfl, pw ⟨_, _, rfl, rfl, _, rfl, (by show 3 ≤ sizeLine; decide), fun p hp => q p _ _ hp⟩⟩
    · rw [decide_eq_false c2]
      exact ⟨_, rfl, (by show 3 ≤ sizeLine; decide), fun p hp => q p _ _ hp⟩
def spTap : Sp := fun vs H Q _ => ∃ k m, vs = [.ref k, .int m] ∧ KegV H k ∧ 0 < m ∧ m < 1000 ∧ ∀ r u, 0 ≤ r → r < m → KegV (upd H k u) k → Q (.int r) (upd H k u)
theorem C__law_tap (T : Tops mg) (D : Def K mg "_law_tap" s__law_tap ["keg", "total"]) : Cal P w K mg base "_law_tap" 1 ["keg", "total"] spTap := by
  refine Cal.of D sc__law_tap (fun vs H Q E h => ?_) (fun f cdv A outer s H vs Q E hr h => ?_)
  · obtain ⟨a, i, rfl, _⟩ := h; rfl
  · obtain ⟨k, m, rfl, ⟨g, sd, n, hk⟩, m0, m1, q⟩ := h
    have hu := hu_of hr
    have h0 := hr.units0
    refine ⟨_, (pss_cons (ps_if (pt_cmpR op_gt (pe_ix ix_list (pv 0) pe_int (fun _ _ => rfl)) pe_int (nomark _)) (pss_cons (ps_set (i := 2) sc__law_tap.nd rfl (Or.inl rfl) (pe_op op_mod (pe_callTy call_int1 (by rfl) T.b_int (by decide +kernel) (pa_cons (pe_ix ix_list (pv 0) pe_int (fun _ _ => rfl)) pa_nil)) (pv 1)))
      (pss_cons (ps_asg (pe_op op_fdiv (pe_ix ix_list (pv 0) pe_int (fun _ _ => rfl)) (pv 1)) (pg_sub (pv 0) pe_int set_list))
      (pss_one (ps_ret (pv 2))))) pss_nil)
      (pss_cons (ps_asg (pe_op op_add (pe_ix ix_list (pv 0) pe_int (fun _ _ => rfl)) pe_int) (pg_sub (pv 0) pe_int set_list))
      (pss_cons (ps_set (i := 3) sc__law_tap.nd rfl (Or.inl rfl) (pe_op op_mod (pe_callTy call_int1 (by rfl) T.b_int (by decide +kernel) (pa_cons (pe_op op_add (pe_ix ix_list (pv 0) pe_int (fun _ _ => rfl)) (pe_op op_mul pe_int (pe_ix ix_list (pv 0) pe_int (fun _ _ => rfl)))) pa_nil)) pe_int))
      (pss_cons (ps_set (i := 4) sc__law_tap.nd rfl (Or.inl rfl) (pe_op op_mod (pe_callTy call_int1 (by rfl) T.b_int (by decide +kernel) (pa_cons (pe_op op_add (pe_op op_add (pe_op op_mul (pv 3) (pv 3)) (pe_op op_fdiv (pe_ix ix_list (pv 0) pe_int (fun _ _ => rfl)) pe_int)) (pe_op op_mul pe_int (pe_ix ix_list (pv 0) pe_int (fun _ _ => rfl)))) pa_nil)) pe_int))
      (pss_cons (ps_set (i := 5) sc__law_tap.nd rfl (Or.inl rfl) (pe_op op_mod (pe_callTy call_int1 (by rfl) T.b_int (by decide +kernel) (pa_cons (pe_op op_add (pe_op op_mul (pv 4) (pv 4)) (pv 3)) pa_nil)) pe_int))
      (pss_one (ps_ret (pe_op op_mod (pe_callTy call_int1 (by rfl) T.b_int (by decide +kernel) (pa_cons (pe_op op_fdiv (pv 5) pe_int) pa_nil)) (pv 1))))))))), ?_⟩
    have get : ∀ {H' : Hp} {a b c : Int} {R : VK}, H' k = some (.lst [.int a, .int b, .int c]) → (R (.int a) H' → rIxL K (.ref k) (.int 0) H' R) ∧ (R (.int b) H' → rIxL K (.ref k) (.int 1) H' R) ∧ (R (.int c) H' → rIxL K (.ref k) (.int 2) H' R) :=
      fun h => ⟨fun r => ⟨k, _, 0, _, rfl, rfl, .inl (.inl h), atI_nat (j := 0) rfl, r⟩, fun r => ⟨k, _, 1, _, rfl, rfl, .inl (.inl h), atI_nat (j := 1) rfl, r⟩, fun r => ⟨k, _, 2, _, rfl, rfl, .inl (.inl h), atI_nat (j := 2) rfl, r⟩⟩
    simp only [cxOf, Cx.nox, L2.start, tRet, tAndV, tOrV, tNotV, tCB, tCons, tNil, tVar, tC, tOp, tUn, tChain, tIfS, tTest, tSeq, tNext, tB, tOr, tAnd, tNot, tAsg, tDrop, tCall, rI0, rI, rU, List.cons_append, List.nil_append, List.append_nil, List.map_cons, List.map_nil, List.length_cons, List.length_nil, Nat.reduceAdd, Nat.reduceSub, List.replicate_succ, List.replicate_zero, List.getElem?_cons_zero, List.getElem?_cons_succ, Option.some.injEq, exists_eq_left, exists_eq_left', exists_eq_right, V.int.injEq, V.bl.injEq, V.str.injEq, V.ref.injEq, true_and, and_true, exists_and_left, if_true, if_false, gTup, gCons, gNil, gSub, gName, Mk.rSetD, List.set_cons_zero, List.set_cons_succ, Bool.false_eq_true, List.cons.injEq, Bool.not_true, Bool.not_false, eq_self, decide_true, decide_false, c3, N__law_tap]
    refine (get hk).1 ⟨_, rfl, ?_⟩
    by_cases c : 0 < g
    · simp only [cxOf, Cx.nox, L2.start, tRet, tAndV, tOrV, tNotV, tCB, tCons, tNil, tVar, tC, tOp, tUn, tChain, tIfS, tTest, tSeq, tNext, tB, tOr, tAnd, tNot, tAsg, tDrop, tCall, rI0, rI, rU, List.cons_append, List.nil_append, List.append_nil, List.map_cons, List.map_nil, List.length_cons, List.length_nil, Nat.reduceAdd, Nat.reduceSub, List.replicate_succ, List.replicate_zero, List.getElem?_cons_zero, List.getElem?_cons_succ, Option.some.injEq, exists_eq_left, exists_eq_left', exists_eq_right, V.int.injEq, V.bl.injEq, V.str.injEq, V.ref.injEq, true_and, and_true, exists_and_left, if_true, if_false, gTup, gCons, gNil, gSub, gName, Mk.rSetD, List.set_cons_zero, List.set_cons_succ, Bool.false_eq_true, List.cons.injEq, Bool.not_true, Bool.not_false, eq_self, decide_true, decide_false, c3, c, m0]
      refine (get hk).1 (.inl ⟨_, rfl, (get hk).1 ⟨_, rfl, ⟨m0, by omega⟩, k, _, 0, 0, rfl, rfl, hk, rfl, ?_⟩⟩)
      exact q _ _ (mod_bd m0).1 (mod_bd m0).2 ⟨_, _, _, upd_same⟩
    · simp only [cxOf, Cx.nox, L2.start, tRet, tAndV, tOrV, tNotV, tCB, tCons, tNil, tVar, tC, tOp, tUn, tChain, tIfS, tTest, tSeq, tNext, tB, tOr, tAnd, tNot, tAsg, tDrop, tCall, rI0, rI, rU, List.cons_append, List.nil_append, List.append_nil, List.map_cons, List.map_nil, List.length_cons, List.length_nil, Nat.reduceAdd, Nat.reduceSub, List.replicate_succ, List.replicate_zero, List.getElem?_cons_zero, List.getElem?_cons_succ, Option.some.injEq, exists_eq_left, exists_eq_left', exists_eq_right, V.int.injEq, V.bl.injEq, V.str.injEq, V.ref.injEq, true_and, and_true, exists_and_left, if_true, if_false, gTup, gCons, gNil, gSub, gName, Mk.rSetD, List.set_cons_zero, List.set_cons_succ, Bool.false_eq_true, List.cons.injEq, Bool.not_true, Bool.not_false, eq_self, decide_true, decide_false, c3, c]
      refine (get hk).2.2 ⟨_, rfl, k, _, 2, 2, rfl, rfl, hk, rfl, ?_⟩
      have hk2 : (upd H k (.lst ([V.int g, V.int sd, V.int n].set 2 (V.int (n + 1))))) k = some (.lst [.int g, .int sd, .int (n + 1)]) := upd_same
      refine (get hk2).2.1 ((get hk2).2.2 ⟨_, rfl, cmul_l, _, rfl, ?_⟩)
      refine .inl ⟨by decide, .inl ?_, (get hk2).2.1 ⟨_, rfl, ⟨by decide, by decide⟩, (get hk2).2.2 ⟨_, rfl, cmul_l, .inl ⟨by decide, .inl ?_, .inl ⟨by decide, ⟨by decide, by decide⟩, .inl ⟨m0, ?_⟩⟩⟩⟩⟩⟩
      · have := mod_bd (x := sd + 1181783497 * (n + 1)) (show (0 : Int) < 2147483587 by decide)
        omega
      · generalize (_ + _ + 7207 * (n + 1) : Int) = z
        have := mod_bd (x := z) (show (0 : Int) < 1000000009 by decide)
        omega
      · exact q _ _ (mod_bd m0).1 (mod_bd m0).2 ⟨_, _, _, hk2⟩
theorem sq_at {i : Int} {n : Nat} (h0 : 0 ≤ i) (h1 : i < n) : seqIndex? i n = some i.toNat := by
  unfold seqIndex?
  have a : ¬ i < 0 := by omega
  simp [a, h0, h1]
theorem pair_erase {α β : Type} {R : α → β → Prop} {as : List α} {bs : List β} (h : Paired R as bs) : ∀ i, Paired R (as.eraseIdx i) (bs.eraseIdx i) := by
  induction h with
  | nil => intro i; exact .nil
  | cons r t ih =>
    intro i
    cases i with
    | zero => exact t
    | succ i => exact .cons r (ih i)
/-- [.. left.pop(..) ..]: some of the items -/
def spCho (K : PySem.W.Frag) : Sp := fun vs H Q _ => ∃ (k a : Addr) (c : Int) (ks : List PK), vs = [.ref k, .ref a, .int c] ∧ KegV H k ∧ k ≠ a ∧ PLV K H a ks ∧ ks.length ≤ 100 ∧ 0 ≤ c ∧ c ≤ 100 ∧
  ∀ H' p ks', GxB k H H' → KegV H' k → H p = none → PLV K H' p ks' → (∀ x ∈ ks', x ∈ ks) → ks'.length ≤ c.toNat → Q (.ref p) H'
theorem C__law_choices (T : Tops mg) (D : Def K mg "_law_choices" s__law_choices ["keg", "items", "count"]) (C__law_tap : Cal P w K mg base "_law_tap" 1 ["keg", "total"] spTap) : Cal P w K mg base "_law_choices" 2 ["keg", "items", "count"] (spCho K) := by
  refine Cal.of D sc__law_choices (fun vs H Q E h => ?_) (fun f cdv A outer s H vs Q E hr h => ?_)
  · obtain ⟨k, a, c, ks, rfl, _⟩ := h; rfl
  · obtain ⟨k, a, c, ks, rfl, hk, hka, plv, lks, c0, c1, q⟩ := h
    have hu := hu_of hr
    have h0 := hr.units0
    refine ⟨_, (pss_cons (ps_par rfl sc__law_choices.nd (i := 3) (j := 4) rfl rfl (by decide) rfl rfl (pa_cons (pe_callTy call_list_of (by rfl) T.b_list (by decide +kernel) (pa_cons (pv 1) pa_nil)) (pa_cons (pe_lst pa_nil) pa_nil)) (by rfl))
      (pss_cons (ps_for PassesOwn.never rfl (pi_range1 (by rfl) T.b_range (pa_cons (pe_callB (call_min2 rfl) (by rfl) T.b_min (by decide +kernel) (pa_cons (pv 2) (pa_cons (pe_callB call_len_seq (by rfl) T.b_len (by decide +kernel) (pa_cons (pv 1) pa_nil)) pa_nil))) pa_nil)) (pg_name (i := 5) sc__law_choices.nd rfl (Or.inl rfl))
      (pss_one (ps_expr (pe_bm PySem.F.plainAttrs_list PySem.F.slot_list_append PySem.F.type_list_append mt_append (pv 4) (pa_cons (pe_bm PySem.F.plainAttrs_list PySem.F.slot_list_pop PySem.F.type_list_pop mt_popAt (pv 3) (pa_cons (pe_cal C__law_tap hr (by decide) (by rfl) (pa_cons (pv 0) (pa_cons (pe_callB call_len_seq (by rfl) T.b_len (by decide +kernel) (pa_cons (pv 3) pa_nil)) pa_nil))) pa_nil)) pa_nil)))))
      (pss_one (ps_ret (pv 4))))), ?_⟩
    simp only [cxOf, Cx.nox, L2.start, tRet, tAndV, tOrV, tNotV, tCB, tCons, tNil, tVar, tC, tOp, tUn, tChain, tIfS, tTest, tSeq, tNext, tB, tOr, tAnd, tNot, tAsg, tDrop, tCall, rI0, rI, rU, List.cons_append, List.nil_append, List.append_nil, List.map_cons, List.map_nil, List.length_cons, List.length_nil, Nat.reduceAdd, Nat.reduceSub, List.replicate_succ, List.replicate_zero, List.getElem?_cons_zero, List.getElem?_cons_succ, Option.some.injEq, exists_eq_left, exists_eq_left', exists_eq_right, V.int.injEq, V.bl.injEq, V.str.injEq, V.ref.injEq, true_and, and_true, exists_and_left, if_true, if_false, gTup, gCons, gNil, gSub, gName, Mk.rSetD, List.set_cons_zero, List.set_cons_succ, Bool.false_eq_true, List.cons.injEq, Bool.not_true, Bool.not_false, eq_self, decide_true, decide_false, c3, N__law_choices, tPar, tLst]
    obtain ⟨xs, hx, pr⟩ := plv
    have lxs : xs.length = ks.length := (Paired.length pr).symm
    refine ⟨xs, .inl (.inl (.inl hx)), fun l hl => ⟨Nat.zero_le _, fun p hp => ⟨_, _, ⟨rfl, rfl⟩, ?_⟩⟩⟩
    have hpl : p ≠ l := fun z => by rw [z, upd_same] at hp; cases hp
    have hp' : H p = none := by rw [upd_ne hpl] at hp; exact hp
    have hkl : k ≠ l := fun z => by obtain ⟨_, _, _, h⟩ := hk; rw [z, hl] at h; cases h
    have hkp : k ≠ p := fun z => by obtain ⟨_, _, _, h⟩ := hk; rw [z, hp'] at h; cases h
    have hal : SqL K (upd (upd H l (.lst xs)) p (.lst [])) a xs := (Gx.new hp).seqL ((Gx.new hl).seqL (.inl (.inl hx)))
    generalize hn : (if (xs.length : Int) < c then (xs.length : Int) else c) = n
    have n0 : 0 ≤ n := by rw [← hn]; split <;> omega
    have n1 : n ≤ ks.length := by rw [← hn, lxs]; split <;> omega
    have n2 : n ≤ c := by rw [← hn]; split <;> omega
    refine ⟨_, rfl, _, rfl, a, rfl, xs, .inl hal, _, _, rfl, _, rfl, ?_⟩
    rw [hn]
    refine ⟨by omega, by omega, ?_⟩
    refine for_it walk_range (fun i σ H' => ∃ x5 ksL xsL ksF xsF, σ = [some (.ref k), some (.ref a), some (.int c), some (.ref l), some (.ref p), x5] ∧ GxB k H H' ∧ KegV H' k ∧ H' l = some (.lst xsL) ∧ Paired (KyV K H') ksL xsL ∧ H' p = some (.lst xsF) ∧ Paired (KyV K H') ksF xsF ∧
        (∀ x ∈ ksL, x ∈ ks) ∧ (∀ x ∈ ksF, x ∈ ks) ∧ ksL.length = ks.length - i ∧ ksF.length = i)
      ⟨none, ks, xs, [], [], rfl, ((Gx.new hl).trans (.new hp)).but, ?_, ?_, ?_, upd_same, .nil, fun _ h => h, nofun, rfl, rfl⟩ (fun _ _ _ _ _ => trivial) (fun i x σ H1 H2 hi hP hY => ?_) (fun σ H1 hP => ?_)
    · obtain ⟨g, s, m, h⟩ := hk
      exact ⟨g, s, m, by rw [upd_ne hkp, upd_ne hkl]; exact h⟩
    · rw [upd_ne hpl.symm]; exact upd_same
    · exact Paired.mapP pr fun _ _ z => z.keep ((Gx.new hl).trans (.new hp)).tk
    · obtain ⟨rfl, rfl⟩ := hY
      obtain ⟨x5, ksL, xsL, ksF, xsF, rfl, g, hk1, hL, prL, hF, prF, sL, sF, lL, lF⟩ := hP
      have ln : xsL.length = ks.length - i := by rw [← Paired.length prL]; exact lL
      refine ⟨_, rfl, .inl ⟨rfl, _, .inl (.inl hF)⟩, _, rfl, .inl ⟨rfl, _, .inl (.inl hL)⟩, _, rfl, _, rfl, l, rfl, xsL, .inl (.inl (.inl hL)), k, _, rfl, hk1, by omega, by omega, fun r u r0 r1 hk2 => ?_⟩
      have hL2 : (upd H2 k u) l = some (.lst xsL) := by rw [upd_ne hkl.symm]; exact hL
      have hrl : r.toNat < xsL.length := by omega
      obtain ⟨y, hy⟩ : ∃ y, xsL[r.toNat]? = some y := ⟨_, List.getElem?_eq_getElem hrl⟩
      obtain ⟨q1, hq1, ky⟩ := pair_at prL hy
      refine ⟨l, xsL, r, r.toNat, y, rfl, rfl, hL2, by omega, by omega, sq_at r0 r1, hy, ?_⟩
      have hF2 : (upd (upd H2 k u) l (.lst (xsL.eraseIdx r.toNat))) p = some (.lst xsF) := by rw [upd_ne hpl, upd_ne hkp.symm]; exact hF
      refine ⟨p, xsF, y, rfl, rfl, hF2, line_lt (m := 100) (by rw [← Paired.length prF, lF]; omega), ?_⟩
      have mk1 : Mut (H2 k) := by obtain ⟨_, _, _, h⟩ := hk1; rw [h]; exact True.intro
      have t1 : Tk K H2 (upd H2 k u) := Tk.mut mk1
      have t2 : Tk K (upd H2 k u) (upd (upd H2 k u) l (.lst (xsL.eraseIdx r.toNat))) := Tk.mut (by rw [hL2]; exact True.intro)
      have t3 : Tk K (upd (upd H2 k u) l (.lst (xsL.eraseIdx r.toNat))) (upd (upd (upd H2 k u) l (.lst (xsL.eraseIdx r.toNat))) p (.lst (xsF ++ [y]))) := Tk.mut (by rw [hF2]; exact True.intro)
      have t := (t1.trans t2).trans t3
      refine ⟨_, ksL.eraseIdx r.toNat, xsL.eraseIdx r.toNat, ksF ++ [q1], xsF ++ [y], rfl, ?_, ?_, ?_, ?_, upd_same, ?_, fun x hx => sL x (List.mem_of_mem_eraseIdx hx), ?_, ?_, ?_⟩
      · intro b o hb hbo
        have b1 : b ≠ l := fun z => by rw [z, hl] at hbo; cases hbo
        have b2 : b ≠ p := fun z => by rw [z, hp'] at hbo; cases hbo
        rw [upd_ne b2, upd_ne b1, upd_ne hb]
        exact g b o hb hbo
      · obtain ⟨g', s', m', h⟩ := hk2
        exact ⟨g', s', m', by rw [upd_ne hkp, upd_ne hkl]; exact h⟩
      · rw [upd_ne hpl.symm]; exact upd_same
      · exact pair_erase (Paired.mapP prL fun _ _ z => z.keep t) _
      · exact pair_snoc (Paired.mapP prF fun _ _ z => z.keep t) (ky.keep t)
      · intro x hx
        rcases List.mem_append.mp hx with h | h
        · exact sF x h
        · rw [List.mem_singleton] at h
          rw [h]
          exact sL _ (List.mem_of_getElem? hq1)
      · rw [List.length_eraseIdx_of_lt (by rw [Paired.length prL]; exact hrl)]; omega
      · rw [List.length_append, List.length_singleton, lF]
    · obtain ⟨x5, ksL, xsL, ksF, xsF, rfl, g, hk1, hL, prL, hF, prF, sL, sF, lL, lF⟩ := hP
      exact ⟨_, rfl, q _ _ ksF g hk1 hp' ⟨xsF, hF, prF⟩ sF (by omega)⟩
end
end Mk


set_option Elab.async false
set_option linter.all false
set_option maxRecDepth 100000
set_option maxHeartbeats 400000
/-! the law's points -/
namespace Mk
open PySem PySem.Spec PyProof.Rows L2
section
variable {P : Program} {w : World} {K : PySem.W.Frag} {mg : Str → Option Value} {base : Heap}
theorem units65 {k : Nat} {A : Around} (r : Room k A) : A.units + 65 < cLine := by have := r.un; omega
theorem units20 {k : Nat} {A : Around} (r : Room k A) : A.units + 20 < cLine := by have := r.un; omega
theorem units3 {k : Nat} {A : Around} (r : Room k A) : A.units + 3 < cLine := by have := r.un; omega
def ks12 : List PK := [.inl (.inr "i"), .inl (.inr "j"), .inl (.inr "n"), .inl (.inr "x"), .inl (.inr "*1"), .inl (.inr "*2"), .inl (.inr "*10"), .inr [.inr "a", .inr "i", .inl 0], .inr [.inr "a", .inr "i", .inl 1], .inr [.inr "a", .inr "", .inl (-3)],
  .inr [.inr "b", .inr "*1", .inl 0], .inr [.inr "a", .inr "j", .inl 0]]
theorem ks12_good : ∀ k ∈ ks12, GoodP k := by
  intro k hk
  simp only [ks12, List.mem_cons, List.not_mem_nil, or_false] at hk
  rcases hk with rfl | rfl | rfl | rfl | rfl | rfl | rfl | rfl | rfl | rfl | rfl | rfl
  · exact ⟨by decide, by decide⟩
  · exact ⟨by decide, by decide⟩
  · exact ⟨by decide, by decide⟩
  · exact ⟨by decide, by decide⟩
  · exact ⟨by decide, by decide⟩
  · exact ⟨by decide, by decide⟩
  · exact ⟨by decide, by decide⟩
  · exact ⟨by decide, by decide, by decide, by decide, by decide, by decide⟩
  · exact ⟨by decide, by decide, by decide, by decide, by decide, by decide⟩
  · exact ⟨by decide, by decide, by decide, by decide, by decide, by decide⟩
  · exact ⟨by decide, by decide, by decide, by decide, by decide, by decide⟩
  · exact ⟨by decide, by decide, by decide, by decide, by decide, by decide⟩
def spDrawn (K : PySem.W.Frag) : Sp := fun vs H Q _ => ∃ (k : Addr) (c : Int), vs = [.ref k, .int c] ∧ KegV H k ∧ 0 ≤ c ∧ c ≤ 2 ∧
  ∀ H' p ks, GxB k H H' → KegV H' k → H p = none → PLV K H' p ks → (∀ x ∈ ks, GoodP x) → (∃ a b, ∀ x ∈ ks, x = zeroP ∨ x = a ∨ x = b) → 0 < ks.length → ks.length ≤ 3 → Q (.ref p) H'
theorem C__law_points_drawn (T : Tops mg) (D : Def K mg "_law_points_drawn" s__law_points_drawn ["keg", "count"]) (C__law_choices : Cal P w K mg base "_law_choices" 2 ["keg", "items", "count"] (spCho K)) : Cal P w K mg base "_law_points_drawn" 3 ["keg", "count"] (spDrawn K) := by
  refine Cal.of D sc__law_points_drawn (fun vs H Q E h => ?_) (fun f cdv A outer s H vs Q E hr h => ?_)
  · obtain ⟨k, c, rfl, _⟩ := h; rfl
  · obtain ⟨k, c, rfl, hk, c0, c1, q⟩ := h
    have hu := hu_of hr
    have h0 := hr.units0
    refine ⟨_, (pss_cons (ps_set (i := 2) sc__law_points_drawn.nd rfl (Or.inl rfl) (pe_lst (pa_cons pe_str (pa_cons pe_str (pa_cons pe_str (pa_cons pe_str (pa_cons pe_str (pa_cons pe_str (pa_cons pe_str (pa_cons (pe_tup (pa_cons pe_str (pa_cons pe_str (pa_cons pe_int pa_nil)))) (pa_cons (pe_tup (pa_cons pe_str (pa_cons pe_str (pa_cons pe_int pa_nil)))) (pa_cons (pe_tup (pa_cons pe_str (pa_cons pe_str (pa_cons (pe_un un_neg pe_int) pa_nil)))) pa_nil))))))))))))
      (pss_cons (ps_set (i := 2) sc__law_points_drawn.nd rfl (Or.inl rfl) (pe_op op_cat (pv 2) (pe_lst (pa_cons (pe_tup (pa_cons pe_str (pa_cons pe_str (pa_cons pe_int pa_nil)))) (pa_cons (pe_tup (pa_cons pe_str (pa_cons pe_str (pa_cons pe_int pa_nil)))) pa_nil)))))
      (pss_one (ps_ret (pe_op op_cat (pe_lst (pa_cons pe_str pa_nil)) (pe_cal C__law_choices hr (by decide) (by rfl) (pa_cons (pv 0) (pa_cons (pv 2) (pa_cons (pv 1) pa_nil))))))))), ?_⟩
    have nl : ∀ {n : Nat}, Nat.ble n 100 = true → n ≤ sizeLine := fun h => line_le (m := 100) (Nat.le_of_ble_eq_true h)
    refine ⟨nl rfl, fun t1 e1 => ⟨nl rfl, fun t2 e2 => ⟨3, rfl, nl rfl, fun t3 e3 => ⟨nl rfl, fun l1 f1 => ?_⟩⟩⟩⟩
    refine ⟨_, rfl, nl rfl, fun t4 e4 => ⟨nl rfl, fun t5 e5 => ⟨nl rfl, fun l2 f2 => ?_⟩⟩⟩
    have d1 : Gx H _ := Gx.new (o := .tup [.str "a", .str "i", .int 0]) e1
    have d2 := Gx.new (o := .tup [.str "a", .str "i", .int 1]) e2
    have d3 := Gx.new (o := .tup [.str "a", .str "", .int (-3)]) e3
    have d4 := Gx.new (o := .lst [.str "i", .str "j", .str "n", .str "x", .str "*1", .str "*2", .str "*10", .ref t1, .ref t2, .ref t3]) f1
    have d5 := Gx.new (o := .tup [.str "b", .str "*1", .int 0]) e4
    have d6 := Gx.new (o := .tup [.str "a", .str "j", .int 0]) e5
    have d7 := Gx.new (o := .lst [.ref t4, .ref t5]) f2
    generalize hA : upd H t1 (.tup [.str "a", .str "i", .int 0]) = HA at *
    have a1 : HA t1 = some (.tup [.str "a", .str "i", .int 0]) := by rw [← hA]; exact upd_same
    generalize hB : upd HA t2 (.tup [.str "a", .str "i", .int 1]) = HB at *
    have a2 : HB t2 = some (.tup [.str "a", .str "i", .int 1]) := by rw [← hB]; exact upd_same
    generalize hC : upd HB t3 (.tup [.str "a", .str "", .int (-3)]) = HC at *
    have a3 : HC t3 = some (.tup [.str "a", .str "", .int (-3)]) := by rw [← hC]; exact upd_same
    generalize hD : upd HC l1 (.lst [.str "i", .str "j", .str "n", .str "x", .str "*1", .str "*2", .str "*10", .ref t1, .ref t2, .ref t3]) = HD at *
    have a4 : HD l1 = some (.lst [.str "i", .str "j", .str "n", .str "x", .str "*1", .str "*2", .str "*10", .ref t1, .ref t2, .ref t3]) := by rw [← hD]; exact upd_same
    generalize hE : upd HD t4 (.tup [.str "b", .str "*1", .int 0]) = HE at *
    have a5 : HE t4 = some (.tup [.str "b", .str "*1", .int 0]) := by rw [← hE]; exact upd_same
    generalize hF : upd HE t5 (.tup [.str "a", .str "j", .int 0]) = HF at *
    have a6 : HF t5 = some (.tup [.str "a", .str "j", .int 0]) := by rw [← hF]; exact upd_same
    generalize hG : upd HF l2 (.lst [.ref t4, .ref t5]) = HG at *
    have a7 : HG l2 = some (.lst [.ref t4, .ref t5]) := by rw [← hG]; exact upd_same
    have d45 := d5.trans (d6.trans d7)
    have dH := d1.trans (d2.trans (d3.trans (d4.trans d45)))
    refine ⟨l1, l2, _, _, rfl, rfl, d45 _ _ a4, a7, nl rfl, fun l3 f3 => ?_⟩
    refine ⟨nl rfl, fun l4 f4 => ⟨_, rfl, _, rfl, _, rfl, ?_⟩⟩
    have g3 := Gx.new (o := .lst ([.str "i", .str "j", .str "n", .str "x", .str "*1", .str "*2", .str "*10", .ref t1, .ref t2, .ref t3] ++ [.ref t4, .ref t5])) f3
    generalize hI : upd HG l3 (.lst ([.str "i", .str "j", .str "n", .str "x", .str "*1", .str "*2", .str "*10", .ref t1, .ref t2, .ref t3] ++ [.ref t4, .ref t5])) = HI at *
    have hl3 : HI l3 = some (.lst ([.str "i", .str "j", .str "n", .str "x", .str "*1", .str "*2", .str "*10", .ref t1, .ref t2, .ref t3] ++ [.ref t4, .ref t5])) := by rw [← hI]; exact upd_same
    have g4 := Gx.new (o := .lst [.str ""]) f4
    generalize hJ : upd HI l4 (.lst [.str ""]) = HJ at *
    have hl4 : HJ l4 = some (.lst [.str ""]) := by rw [← hJ]; exact upd_same
    have gJ := g3.trans g4
    have gall := dH.trans gJ
    have c3 := gJ; have c2 := d45.trans gJ
    have plv : PLV K HJ l3 ks12 := ⟨_, g4 _ _ hl3, .cons rfl (.cons rfl (.cons rfl (.cons rfl (.cons rfl (.cons rfl (.cons rfl
      (.cons ⟨t1, rfl, .inl (.inl ((d2.trans (d3.trans (d4.trans c2))) _ _ a1))⟩ (.cons ⟨t2, rfl, .inl (.inl ((d3.trans (d4.trans c2)) _ _ a2))⟩ (.cons ⟨t3, rfl, .inl (.inl ((d4.trans c2) _ _ a3))⟩
      (.cons ⟨t4, rfl, .inl (.inl ((d6.trans (d7.trans gJ)) _ _ a5))⟩ (.cons ⟨t5, rfl, .inl (.inl ((d7.trans gJ) _ _ a6))⟩ .nil)))))))))))⟩
    have hkJ : KegV HJ k := let ⟨a, b, c, h⟩ := hk; ⟨a, b, c, gall _ _ h⟩
    have nk3 : k ≠ l3 := fun z => by
      obtain ⟨_, _, _, h⟩ := hk
      have := dH _ _ h
      rw [z, f3] at this; cases this
    have hn4 : H l4 = none := (dH.trans g3).free f4
    refine ⟨k, l3, c, ks12, rfl, hkJ, nk3, plv, by decide, c0, by omega, fun H5 p ks' g5 hk5 hp ⟨xs, hx, pr⟩ sub lks => ?_⟩
    have nk4 : l4 ≠ k := fun z => by
      obtain ⟨_, _, _, h⟩ := hk
      rw [← z, hn4] at h; cases h
    have lx : xs.length ≤ 2 := by rw [← Paired.length pr]; omega
    refine ⟨l4, p, [.str ""], xs, rfl, rfl, g5 _ _ nk4 hl4, hx, line_le (m := 3) (by rw [List.length_singleton]; omega), fun p6 hp6 => ?_⟩
    have g6 := Gx.new (o := .lst ([.str ""] ++ xs)) hp6
    have hH6 : H p6 = none := by
      rcases hh : H p6 with _ | o
      · rfl
      · by_cases z : p6 = k
        · obtain ⟨_, _, _, h⟩ := hk5
          rw [z, h] at hp6; cases hp6
        · rw [g5 _ _ z (gall _ _ hh)] at hp6; cases hp6
    refine q _ p6 (zeroP :: ks') (gall.but.trans (g5.trans g6.but)) (let ⟨a, b, c, h⟩ := hk5; ⟨a, b, c, g6 _ _ h⟩) hH6 ⟨_, upd_same, .cons rfl (Paired.mapP pr fun _ _ z => z.keep g6.tk)⟩ ?_ ?_ (by simp) (by rw [List.length_cons]; omega)
    · intro x hx
      rcases List.mem_cons.mp hx with rfl | h
      · exact ⟨by decide, by decide⟩
      · exact ks12_good x (sub x h)
    · have l2 : ks'.length ≤ 2 := by omega
      match ks', l2 with
      | [], _ => exact ⟨zeroP, zeroP, fun x hx => .inl (by simpa using hx)⟩
      | [a], _ => exact ⟨a, a, fun x hx => by simp at hx; rcases hx with h | h <;> simp [h]⟩
      | [a, b], _ => exact ⟨a, b, fun x hx => by simpa using hx⟩
def spOne (K : PySem.W.Frag) : Sp := fun vs H Q _ => ∃ (k a : Addr) (ks : List PK), vs = [.ref k, .ref a] ∧ KegV H k ∧ PLV K H a ks ∧ 0 < ks.length ∧ ks.length < 1000 ∧ k ≠ a ∧
  ∀ v x u, KyV K (upd H k u) x v → x ∈ ks → KegV (upd H k u) k → Q v (upd H k u)
theorem C__law_choice (T : Tops mg) (D : Def K mg "_law_choice" s__law_choice ["keg", "items"]) (C__law_tap : Cal P w K mg base "_law_tap" 1 ["keg", "total"] spTap) : Cal P w K mg base "_law_choice" 2 ["keg", "items"] (spOne K) := by
  refine Cal.of D sc__law_choice (fun vs H Q E h => ?_) (fun f cdv A outer s H vs Q E hr h => ?_)
  · obtain ⟨k, a, ks, rfl, _⟩ := h; rfl
  · obtain ⟨k, a, ks, rfl, hk, ⟨xs, hx, pr⟩, l0, l1, ne, q⟩ := h
    have hu := hu_of hr
    have h0 := hr.units0
    refine ⟨_, (pss_one (ps_ret (pe_ix ix_list (pv 1) (pe_cal C__law_tap hr (by decide) (by rfl) (pa_cons (pv 0) (pa_cons (pe_callB call_len_seq (by rfl) T.b_len (by decide +kernel) (pa_cons (pv 1) pa_nil)) pa_nil))) (fun _ _ => rfl)))), ?_⟩
    simp only [cxOf, Cx.nox, L2.start, tRet, tAndV, tOrV, tNotV, tCB, tCons, tNil, tVar, tC, tOp, tUn, tChain, tIfS, tTest, tSeq, tNext, tB, tOr, tAnd, tNot, tAsg, tDrop, tCall, rI0, rI, rU, List.cons_append, List.nil_append, List.append_nil, List.map_cons, List.map_nil, List.length_cons, List.length_nil, Nat.reduceAdd, Nat.reduceSub, List.replicate_succ, List.replicate_zero, List.getElem?_cons_zero, List.getElem?_cons_succ, Option.some.injEq, exists_eq_left, exists_eq_left', exists_eq_right, V.int.injEq, V.bl.injEq, V.str.injEq, V.ref.injEq, true_and, and_true, exists_and_left, if_true, if_false, gTup, gCons, gNil, gSub, gName, Mk.rSetD, List.set_cons_zero, List.set_cons_succ, Bool.false_eq_true, List.cons.injEq, Bool.not_true, Bool.not_false, eq_self, decide_true, decide_false, c3, N__law_choice]
    have e := Paired.length pr
    refine ⟨_, .inl (.inl (.inl hx)), k, _, rfl, hk, by omega, by omega, fun r u r0 r1 hk2 => ?_⟩
    have t1 : Tk K H (upd H k u) := Tk.mut (by obtain ⟨_, _, _, h⟩ := hk; rw [h]; exact True.intro)
    have hrl : r.toNat < xs.length := by omega
    obtain ⟨y, hy⟩ : ∃ y, xs[r.toNat]? = some y := ⟨_, List.getElem?_eq_getElem hrl⟩
    obtain ⟨q1, hq1, ky⟩ := pair_at pr hy
    refine ⟨a, xs, r, y, rfl, rfl, .inl (.inl (by rw [upd_ne ne.symm]; exact hx)), ?_, q y q1 u (ky.keep t1) (List.mem_of_getElem? hq1) hk2⟩
    have := atI_nat hy
    rwa [Int.toNat_of_nonneg r0] at this
end
end Mk


set_option Elab.async false
set_option linter.all false
set_option maxRecDepth 100000
set_option maxHeartbeats 400000
/-! the law's points of rows -/
namespace Mk
open PySem PySem.Spec PyProof.Rows L2
section
variable {P : Program} {w : World} {K : PySem.W.Frag} {mg : Str → Option Value} {base : Heap}
/-- [x for x in L if ..] -/
theorem filt_lst {p : PK → Bool} {tt : TT} {σ : L2.St} {H : Hp} {a : Addr} {Q : VK} {ks : List PK} {i j : Nat} (hσ : σ[i]? = some (some (.ref a))) (hj : j < σ.length) (plv : PLV K H a ks) (hl : ks.length ≤ 1000)
    (ht : ∀ k x H' (R : Bool → Hp → Prop), KyV K H' k x → R (p k) H' → tt ((σ.set j none).set j (some x)) H' R)
    (q : ∀ H' r, Gx H H' → H r = none → PLV K H' r (ks.filter p) → Q (.ref r) H') : tLc (iList K (tVar i)) (gName j) tt (tVar j) [j] σ H Q := by
  obtain ⟨xs, hx, pr⟩ := plv
  refine ⟨_, hσ, a, rfl, ⟨_, .inl (.inl hx)⟩, fun D hD => lc_it (walk_list (xs := xs)) (PvG H D fun n ys H' => Paired (KyV K H') ((ks.take n).filter p) ys) (PvG.ini hD (by rw [List.take_zero]; exact .nil))
    (fun _ H2 _ h => h.1.seqL (.inl (.inl hx))) (fun n x H1 H2 hn hP hY => ?_) (fun H1 hP => ?_)⟩
  · obtain ⟨rfl, hxn⟩ := hY
    obtain ⟨g, ys, e, am⟩ := hP
    obtain ⟨k, hk, ky⟩ := pair_at pr hxn
    have ky := ky.keep g.tk
    refine ⟨?_, ?_⟩
    · show ((σ.set j none).set j (some x)).set j none = σ.set j none
      rw [List.set_set, List.set_set]
    · have gj : ((σ.set j none).set j (some x))[j]? = some (some x) := by rw [List.set_set, List.getElem?_set_self hj]
      refine ht k x H2 _ ky ?_
      by_cases c : p k = true
      · rw [if_pos c]
        refine ⟨x, gj, PvG.put g hD e ?_ ?_⟩
        · rw [← Paired.length am]
          exact line_lt (Nat.le_trans (List.length_filter_le _ _) (take_len hl)) (m := 1000)
        · rw [take_s hk, List.filter_append, List.filter_cons_of_pos c]
          exact pair_snoc (Paired.mapP am fun _ _ z => z.keep (Tk.mut (by rw [e]; exact True.intro))) (ky.keep (Tk.mut (by rw [e]; exact True.intro)))
      · rw [if_neg c]
        refine ⟨g, ys, e, ?_⟩
        dsimp only
        rw [take_s hk, List.filter_append, List.filter_cons_of_neg c]
        simpa using am
  · obtain ⟨g, ys, e, am⟩ := hP
    rw [← Paired.length pr, List.take_length] at am
    exact q _ _ g hD ⟨ys, e, am⟩
def addP (l : List PK) (k : PK) : List PK := if (l.any fun z => decide (z = k)) = true then l else l ++ [k]
theorem anyP_iff {l : List PK} {k : PK} : (l.any fun z => decide (z = k)) = true ↔ k ∈ l := by
  rw [List.any_eq_true]
  exact ⟨fun ⟨z, a, b⟩ => (of_decide_eq_true b) ▸ a, fun h => ⟨k, h, decide_eq_true rfl⟩⟩
theorem addP_nodup {l : List PK} {k : PK} (h : l.Nodup) : (addP l k).Nodup := by
  unfold addP
  split
  · exact h
  · rename_i c
    rw [List.nodup_append]
    exact ⟨h, by simp, fun a ha b hb => by rw [List.mem_singleton] at hb; subst hb; exact fun z => c (anyP_iff.mpr (z ▸ ha))⟩
theorem addP_mem {l : List PK} {k x : PK} : x ∈ addP l k ↔ x = k ∨ x ∈ l := by
  unfold addP
  split
  · rename_i c
    exact ⟨.inr, fun h => h.elim (fun e => e ▸ anyP_iff.mp c) id⟩
  · rw [List.mem_append, List.mem_singleton]; exact Or.comm
theorem addP_len {l : List PK} {k : PK} : (addP l k).length ≤ l.length + 1 := by
  unfold addP
  split
  · omega
  · rw [List.length_append]; exact Nat.le_refl _
def accP : List Dif → List PK
  | [] => [zeroP]
  | d :: ds => addP (addP (accP ds) d.1) d.2.1
theorem accP_nodup : ∀ ds, (accP ds).Nodup
  | [] => by simp [accP]
  | d :: ds => addP_nodup (addP_nodup (accP_nodup ds))
theorem accP_mem {k : PK} : ∀ ds, k ∈ accP ds ↔ k ∈ allPts ds
  | [] => by simp [accP, allPts]
  | d :: ds => by
    rw [accP, addP_mem, addP_mem, accP_mem ds]
    simp only [allPts, List.flatMap_cons, List.mem_cons, List.mem_append, List.not_mem_nil, or_false]
    constructor
    · rintro (h | h | h | h) <;> simp [h]
    · rintro (h | (h | h) | h) <;> simp [h]
theorem accP_len : ∀ ds, (accP ds).length ≤ 2 * ds.length + 1
  | [] => by simp [accP]
  | d :: ds => by
    have h1 := accP_len ds
    have h2 := addP_len (l := accP ds) (k := d.1)
    have h3 := addP_len (l := addP (accP ds) d.1) (k := d.2.1)
    rw [accP, List.length_cons]
    omega
theorem ptsOf_acc {ds : List Dif} (hg : ∀ d ∈ ds, GoodD d) {k1 k2 : List PK} (h1 : k1.Perm ((accP ds.reverse).filter isStrK)) (h2 : k2.Perm ((accP ds.reverse).filter fun k => !isStrK k)) : PtsOf ds (k1 ++ k2) := by
  have hm : ∀ k, k ∈ allPts ds.reverse ↔ k ∈ allPts ds := fun k => by simp [allPts]
  have nd := accP_nodup ds.reverse
  refine ⟨List.nodup_append.mpr ⟨h1.nodup_iff.mpr (nd.filter _), h2.nodup_iff.mpr (nd.filter _), fun a ha b hb => ?_⟩, fun k => ?_⟩
  · have e1 := (List.mem_filter.mp (h1.mem_iff.mp ha)).2
    have e2 := (List.mem_filter.mp (h2.mem_iff.mp hb)).2
    rintro rfl
    rw [e1] at e2
    cases e2
  · rw [List.mem_append, h1.mem_iff, h2.mem_iff, List.mem_filter, List.mem_filter, ← and_or_left, accP_mem, hm]
    exact ⟨fun h => h.1, fun h => ⟨h, by cases isStrK k <;> simp⟩⟩
def spPin (K : PySem.W.Frag) : Sp := spPts K
theorem C__law_points_in (T : Tops mg) (D : Def K mg "_law_points_in" s__law_points_in ["differences"]) : Cal P w K mg base "_law_points_in" 1 ["differences"] (spPts K) := by
  refine Cal.of D sc__law_points_in (fun vs H Q E h => ?_) (fun f cdv A outer s H vs Q E hr h => ?_)
  · obtain ⟨i, k, rfl, _⟩ := h; rfl
  · obtain ⟨v, ds, rfl, ⟨a, vs, rfl, hS, hv⟩, ⟨hl, hg⟩, q⟩ := h
    have hu := hu_of hr
    have h0 := hr.units0
    have h65 := units65 hr
    have h20 := units20 hr
    refine ⟨_, (pss_cons (ps_set (i := 1) sc__law_points_in.nd rfl (Or.inl rfl) (pe_lst (pa_cons pe_str pa_nil)))
      (pss_cons (ps_for PassesOwn.never rfl (pi_tup (pv 0)) (pg_name (i := 2) sc__law_points_in.nd rfl (Or.inl rfl))
      (pss_one (ps_for PassesOwn.never rfl (pi_tup (pe_slice sl_tupA (pv 2) po_none (po_some pe_int))) (pg_name (i := 3) sc__law_points_in.nd rfl (Or.inl rfl))
      (pss_one (ps_set (i := 1) sc__law_points_in.nd rfl (Or.inl rfl) (pe_op op_cat (pv 1) (pe_op op_rep (pe_lst (pa_cons (pv 3) pa_nil)) (pe_callTy call_int1 (by rfl) T.b_int (by decide +kernel) (pa_cons (pe_cmpR (op_notInDp h65 (K := K) rfl) (pv 3) (pv 1) (by rfl)) pa_nil)))))))))
      (pss_cons (ps_set (i := 4) sc__law_points_in.nd rfl (Or.inl rfl) (pe_callB (call_sortD h20) (by rfl) T.b_sorted (by decide +kernel) (pa_cons (pe_lc (own := [("point", 3)]) rfl sc__law_points_in.nd (pi_list (pv 1)) (blkOk_by (own := [("point", 3)]) (N := N__law_points_in) (sc := defScope s__law_points_in) (by decide +kernel)) (fun _ _ _ _ _ => (pg_name (i := 3) sc__law_points_in.nd rfl (Or.inl rfl))) (fun _ _ _ _ _ => (pts_one (pt_val (pe_callB (call_isA' (P := P) (w := w) (K := K) rfl rfl rfl) (by rfl) T.b_isinstance (by decide +kernel) (pa_cons (pv 3) (pa_cons (pe_bltn (v := .ty "str") (u := .type "str") (by rfl) T.b_str (by decide +kernel) rfl) pa_nil)))))) (fun _ _ _ _ _ => (pv 3))) pa_nil)))
      (pss_one (ps_ret (pe_op op_cat (pv 4) (pe_callB (call_sortD h20) (by rfl) T.b_sorted (by decide +kernel) (pa_cons (pe_lc (own := [("point", 3)]) rfl sc__law_points_in.nd (pi_list (pv 1)) (blkOk_by (own := [("point", 3)]) (N := N__law_points_in) (sc := defScope s__law_points_in) (by decide +kernel)) (fun _ _ _ _ _ => (pg_name (i := 3) sc__law_points_in.nd rfl (Or.inl rfl))) (fun _ _ _ _ _ => (pts_one (pt_not (pt_val (pe_callB (call_isA' (P := P) (w := w) (K := K) rfl rfl rfl) (by rfl) T.b_isinstance (by decide +kernel) (pa_cons (pv 3) (pa_cons (pe_bltn (v := .ty "str") (u := .type "str") (by rfl) T.b_str (by decide +kernel) rfl) pa_nil))))))) (fun _ _ _ _ _ => (pv 3))) pa_nil)))))))), ?_⟩
    simp only [cxOf, Cx.nox, L2.start, tRet, tAndV, tOrV, tNotV, tCB, tCons, tNil, tVar, tC, tOp, tUn, tChain, tIfS, tTest, tSeq, tNext, tB, tOr, tAnd, tNot, tAsg, tDrop, tCall, rI0, rI, rU, List.cons_append, List.nil_append, List.append_nil, List.map_cons, List.map_nil, List.length_cons, List.length_nil, Nat.reduceAdd, Nat.reduceSub, List.replicate_succ, List.replicate_zero, List.getElem?_cons_zero, List.getElem?_cons_succ, Option.some.injEq, exists_eq_left, exists_eq_left', exists_eq_right, V.int.injEq, V.bl.injEq, V.str.injEq, V.ref.injEq, true_and, and_true, exists_and_left, if_true, if_false, gTup, gCons, gNil, gSub, gName, Mk.rSetD, List.set_cons_zero, List.set_cons_succ, Bool.false_eq_true, List.cons.injEq, Bool.not_true, Bool.not_false, eq_self, decide_true, decide_false, c3, N__law_points_in]
    refine ⟨Nat.le_of_ble_eq_true rfl, fun F hF => ?_⟩
    have one : ∀ (De : Ends) (H1 : Hp) (F : Addr) (l : List PK) (k : PK) (x : V) (x0 x2 x4 : Option V), PLV K H1 F l → KyV K H1 k x → (∀ y ∈ l, GoodP y) → GoodP k → l.length ≤ 200 → (∀ H2 F2, Gx H1 H2 → H1 F2 = none → PLV K H2 F2 (addP l k) → De.nx [x0, some (.ref F2), x2, some x, x4] H2) →
        tAsg (tOp rCat (tVar 1) (tOp rRep (tLst (tCons (tVar 3) tNil)) (tCB (fun xs H Q => (∃ i, xs = [V.int i] ∧ Q (V.int i) H) ∨ ∃ k, xs = [V.bl k] ∧ Q (V.int (if k = true then 1 else 0)) H) (tCons (tOp (L2.rNotInD K) (tVar 3) (tVar 1)) tNil)))) (gName 1)
          De [x0, some (.ref F), x2, some x, x4] H1 := by
      intro De H1 F l k x x0 x2 x4 plv ky gl gk ll hR
      obtain ⟨xs, hx, pr⟩ := id plv
      refine ⟨_, rfl, _, rfl, Nat.le_of_ble_eq_true rfl, fun n1 hn1 => ⟨_, rfl, _, rfl, ?_⟩⟩
      have g1 := Gx.new (o := .lst [x]) hn1
      have hx1 := g1 _ _ hx
      have e1 : (upd H1 n1 (.lst [x])) n1 = some (.lst [x]) := upd_same
      generalize upd H1 n1 (.lst [x]) = H2 at *
      refine ⟨ptD k, l.map ptD, (ky.keep g1.tk).dp, .lst (.inl (.inl hx1)) (dpAll_pts (Paired.mapP pr fun _ _ z => z.keep g1.tk)), shaped_pt gk, shaped_pts gl, .inr ⟨_, rfl, ?_⟩⟩
      rw [List.any_map, show ((fun z => PyData.eqv z (ptD k)) ∘ ptD) = fun z => decide (z = k) from funext fun z => eqv_pt z k]
      refine ⟨n1, _, [x], rfl, rfl, e1, ?_⟩
      have lx : xs.length ≤ 200 := by rw [← Paired.length pr]; exact ll
      by_cases c : (l.any fun z => decide (z = k)) = true
      · rw [c]
        refine ⟨by decide, by decide, Nat.le_of_ble_eq_true rfl, fun n2 hn2 => ?_⟩
        have g2 := Gx.new (o := .lst (List.replicate (Int.toNat (if (!true) = true then 1 else 0)) [x]).flatten) hn2
        have e2 : (upd H2 n2 (.lst (List.replicate (Int.toNat (if (!true) = true then 1 else 0)) [x]).flatten)) n2 = some (.lst []) := upd_same
        refine ⟨F, n2, xs, [], rfl, rfl, g2 _ _ hx1, e2, line_le (m := 200) (by simpa using lx), fun n3 hn3 => ?_⟩
        have g3 := Gx.new (o := .lst (xs ++ [])) hn3
        have gg := g1.trans (g2.trans g3)
        refine hR _ n3 gg ((g1.trans g2).free hn3) ⟨xs, by rw [upd_same, List.append_nil], ?_⟩
        rw [addP, if_pos c]
        exact Paired.mapP pr fun _ _ z => z.keep gg.tk
      · rw [show (l.any fun z => decide (z = k)) = false from Bool.eq_false_iff.mpr c]
        refine ⟨by decide, by decide, Nat.le_of_ble_eq_true rfl, fun n2 hn2 => ?_⟩
        have g2 := Gx.new (o := .lst (List.replicate (Int.toNat (if (!false) = true then 1 else 0)) [x]).flatten) hn2
        have e2 : (upd H2 n2 (.lst (List.replicate (Int.toNat (if (!false) = true then 1 else 0)) [x]).flatten)) n2 = some (.lst [x]) := upd_same
        refine ⟨F, n2, xs, [x], rfl, rfl, g2 _ _ hx1, e2, line_le (m := 201) (by rw [List.length_singleton]; omega), fun n3 hn3 => ?_⟩
        have g3 := Gx.new (o := .lst (xs ++ [x])) hn3
        have gg := g1.trans (g2.trans g3)
        refine hR _ n3 gg ((g1.trans g2).free hn3) ⟨xs ++ [x], upd_same, ?_⟩
        rw [addP, if_neg c]
        exact pair_snoc (Paired.mapP pr fun _ _ z => z.keep gg.tk) (ky.keep gg.tk)
    have accg : ∀ i, ∀ y ∈ accP (ds.take i).reverse, GoodP y := fun i y hy => allPts_good (ds := (ds.take i).reverse) (fun d hd => hg d (List.mem_of_mem_take (List.mem_reverse.mp hd))) ((accP_mem _).mp hy)
    have accl : ∀ i, (accP (ds.take i).reverse).length ≤ 121 := fun i => by
      have h1 := accP_len (ds.take i).reverse
      have h2 := take_len (i := i) hl
      rw [List.length_reverse] at h1
      omega
    refine ⟨_, rfl, a, rfl, ⟨vs, (Gx.new hF).seqT hS⟩, for_it (walk_tup (xs := vs)) (fun i σ H' => ∃ F' x2 x3, σ = [some (.ref a), some (.ref F'), x2, x3, none] ∧ Gx H H' ∧ PLV K H' F' (accP (ds.take i).reverse))
      ⟨F, none, none, rfl, .new hF, _, upd_same, .cons rfl .nil⟩ (fun i σ H' _ h => ?_) (fun i x σ H1 H2 hi hP hY => ?_) (fun σ H1 hP => ?_)⟩
    · obtain ⟨_, _, _, _, g, _⟩ := h
      exact g.seqT hS
    · obtain ⟨rfl, hx⟩ := hY
      obtain ⟨F', x2, x3, rfl, g, plv⟩ := hP
      obtain ⟨d, hdi, hdx⟩ := pair_at hv hx
      obtain ⟨p, y1, y2, rfl, hp, k1, k2⟩ := hdx.keep g.tk
      have hn : (ds.take (i + 1)).reverse = d :: (ds.take i).reverse := by rw [take_s hdi, List.reverse_append]; rfl
      obtain ⟨gd1, gd2, _⟩ := hg d (List.mem_of_getElem? hdi)
      refine ⟨_, rfl, 2, rfl, p, _, rfl, hp, fun c => absurd c (by show ¬ (HT.sIx 3 0 none = 0 ∧ HT.sIx 3 3 (some 2) = 3); decide), fun _ n hn1 => ⟨n, rfl, ⟨_, .inl (.inl upd_same)⟩, ?_⟩⟩
      have g1 := Gx.new (o := .tup (cutV [y1, y2, V.int d.2.2] none (some 2))) hn1
      have e1 : (upd H2 n (.tup (cutV [y1, y2, V.int d.2.2] none (some 2)))) n = some (.tup [y1, y2]) := upd_same
      generalize upd H2 n (.tup (cutV [y1, y2, V.int d.2.2] none (some 2))) = H3 at *
      have k13 := k1.keep g1.tk
      have k23 := k2.keep g1.tk
      refine for_it (walk_tup (K := K) (a := n) (xs := [y1, y2])) (fun j σ H' => ∃ F' x3, σ = [some (.ref a), some (.ref F'), some (.ref p), x3, none] ∧ Gx H3 H' ∧ PLV K H' F' (if j = 0 then accP (ds.take i).reverse else if j = 1 then addP (accP (ds.take i).reverse) d.1 else addP (addP (accP (ds.take i).reverse) d.1) d.2.1))
        ⟨F', x3, rfl, .refl, plv.gx g1⟩ (fun j σ H' _ h => ?_) (fun j x σ H4 H5 hj hP hY => ?_) (fun σ H4 hP => ?_)
      · obtain ⟨_, _, _, g, _⟩ := h
        exact g.seqT (.inl (.inl e1))
      · obtain ⟨rfl, hx⟩ := hY
        obtain ⟨F4, x4, rfl, g4, plv4⟩ := hP
        match j, hj, hx, plv4 with
        | 0, _, hx, plv4 =>
          cases hx
          exact one _ H5 F4 _ d.1 _ _ _ _ plv4 (k13.keep g4.tk) (accg i) gd1 (Nat.le_trans (accl i) (by decide)) fun H6 F6 g6 _ p6 => ⟨F6, _, rfl, g4.trans g6, p6⟩
        | 1, _, hx, plv4 =>
          cases hx
          refine one _ H5 F4 _ d.2.1 _ _ _ _ plv4 (k23.keep g4.tk) (fun y hy => ?_) gd2 (Nat.le_trans addP_len (Nat.le_trans (Nat.succ_le_succ (accl i)) (by decide))) fun H6 F6 g6 _ p6 => ⟨F6, _, rfl, g4.trans g6, p6⟩
          rcases addP_mem.mp hy with rfl | hy
          · exact gd1
          · exact accg i y hy
      · obtain ⟨F4, x4, rfl, g4, plv4⟩ := hP
        refine ⟨F4, _, _, rfl, g.trans (g1.trans g4), ?_⟩
        rw [hn]
        exact plv4
    · obtain ⟨F', x2, x3, rfl, g, plv⟩ := hP
      rw [show vs.length = ds.length from (Paired.length hv).symm] at plv
      have ll := accl ds.length
      have lg := accg ds.length
      rw [List.take_length] at plv ll lg
      simp only [cxOf, Cx.nox, L2.start, tRet, tAndV, tOrV, tNotV, tCB, tCons, tNil, tVar, tC, tOp, tUn, tChain, tIfS, tTest, tSeq, tNext, tB, tOr, tAnd, tNot, tAsg, tDrop, tCall, rI0, rI, rU, List.cons_append, List.nil_append, List.append_nil, List.map_cons, List.map_nil, List.length_cons, List.length_nil, Nat.reduceAdd, Nat.reduceSub, List.replicate_succ, List.replicate_zero, List.getElem?_cons_zero, List.getElem?_cons_succ, Option.some.injEq, exists_eq_left, exists_eq_left', exists_eq_right, V.int.injEq, V.bl.injEq, V.str.injEq, V.ref.injEq, true_and, and_true, exists_and_left, if_true, if_false, gTup, gCons, gNil, gSub, gName, Mk.rSetD, List.set_cons_zero, List.set_cons_succ, Bool.false_eq_true, List.cons.injEq, Bool.not_true, Bool.not_false, eq_self, decide_true, decide_false, c3]
      refine filt_lst (i := 1) (j := 3) (p := isStrK) rfl (Nat.le_of_ble_eq_true rfl) plv (Nat.le_trans ll (by decide)) (fun k x H' R ky hR => ?_) fun H2 r g2 hr2 plv2 => ?_
      · obtain ⟨t, h1, h2⟩ := str_ty (P := P) (w := w) k x H' ky
        exact ⟨x, rfl, x, _, t, _, rfl, h1, h2, _, rfl, hR⟩
      refine sort_pts plv2 (.inl fun k hk => (List.mem_filter.mp hk).2) fun p ks1 xs1 hp pm1 pr1 => ?_
      have gg : Gx H1 (upd H2 p (.lst xs1)) := g2.mut (g2.free hp)
      refine filt_lst (i := 1) (j := 3) (p := fun k => !isStrK k) rfl (Nat.le_of_ble_eq_true rfl) (plv.gx gg) (Nat.le_trans ll (by decide)) (fun k x H' R ky hR => ?_) fun H4 r4 g4 hr4 plv4 => ?_
      · obtain ⟨t, h1, h2⟩ := str_ty (P := P) (w := w) k x H' ky
        exact ⟨x, rfl, x, _, t, _, rfl, h1, h2, _, rfl, hR⟩
      refine sort_pts plv4 (.inr fun k hk => ?_) fun p5 ks5 xs5 hp5 pm5 pr5 => ?_
      · obtain ⟨hm, ht⟩ := List.mem_filter.mp hk
        have gk := lg k hm
        refine ⟨?_, gk⟩
        rcases gk.cases with ⟨z, rfl, _⟩ | ⟨a, b, c, rfl, _⟩
        · cases ht
        · rfl
      have g5 : Gx H4 (upd H4 p5 (.lst xs5)) := .new hp5
      have e1 : (upd H4 p5 (.lst xs5)) p = some (.lst xs1) := g5 _ _ (g4 _ _ upd_same)
      have l1 : xs1.length ≤ 1000 := by
        rw [← Paired.length pr1, pm1.length_eq]
        exact Nat.le_trans (List.length_filter_le _ _) (by omega)
      have l5 : xs5.length ≤ 1000 := by
        rw [← Paired.length pr5, pm5.length_eq]
        exact Nat.le_trans (List.length_filter_le _ _) (by omega)
      refine ⟨p, p5, xs1, xs5, rfl, rfl, e1, upd_same, line_le (m := 2000) (by omega), fun p6 hp6 => ?_⟩
      have g6 : Gx H1 (upd H4 p5 (.lst xs5)) := gg.trans (g4.trans g5)
      refine q _ p6 (ks1 ++ ks5) (g.trans (g6.trans (.new hp6))) ((g.trans g6).free hp6) ⟨_, upd_same, ?_⟩ (ptsOf_acc hg pm1 pm5)
      exact pair_app (Paired.mapP pr1 fun _ _ z => z.keep ((g4.trans (g5.trans (.new hp6))).tk)) (Paired.mapP pr5 fun _ _ z => z.keep (Gx.new hp6).tk)
end
end Mk


set_option Elab.async false
set_option linter.all false
set_option maxRecDepth 100000
set_option maxHeartbeats 400000
/-! the plain law: tightest numbers are one, and small; few points have small numbers that fit -/
namespace Mk
open PySem PySem.Spec PyProof.Rows L2
theorem BoundM.one {ds : List Dif} {a b : PK} {o o' : Option Int} (h : BoundM ds a b o) (h' : BoundM ds a b o') : o = o' := by
  match o, o', h, h' with
  | none, none, _, _ => rfl
  | none, some x, h, ⟨h1, _⟩ =>
    obtain ⟨f, hf, hl⟩ := h x
    have := h1 f hf
    omega
  | some x, none, ⟨h1, _⟩, h =>
    obtain ⟨f, hf, hl⟩ := h x
    have := h1 f hf
    omega
  | some x, some y, ⟨h1, f, hf, e⟩, ⟨h2, g, hg, e'⟩ =>
    have a := h1 g hg
    have b := h2 f hf
    have : x = y := by omega
    rw [this]
theorem step_small {ds : List Dif} {W : Int} (hW : 0 ≤ W) (hd : ∀ d ∈ ds, -W ≤ d.2.2 ∧ d.2.2 ≤ W) {B : Int} (hB : 0 ≤ B) : ∀ (l : List Dif) (i : Nat) (N S : Num) (b : Bool), (∀ d ∈ l, d ∈ ds) → (∀ p x, lookA N p = some x → -B ≤ x ∧ x ≤ B) →
    ∀ p x, lookA (roundM (N, S, b) i l).1 p = some x → -(B + W * l.length) ≤ x ∧ x ≤ B + W * l.length
  | [], _, N, S, b, _, h => fun p x e => by have := h p x e; simp; omega
  | d :: l, i, N, S, b, hl, h => by
    have key : ∀ p x, lookA (stepM (N, S, b) i d).1 p = some x → -(B + W) ≤ x ∧ x ≤ B + W := by
      rcases stepM_cases N S b i d with ⟨e, _⟩ | ⟨y, hy, _, e⟩
      · rw [e]; intro p x q; have := h p x q; omega
      · rw [e]
        intro p x q
        dsimp only at q
        rw [lookA_put] at q
        by_cases c : p = d.1
        · rw [if_pos c] at q
          cases q
          have h1 := h _ _ hy
          have h2 := hd d (hl d List.mem_cons_self)
          omega
        · rw [if_neg c] at q; have := h p x q; omega
    intro p x q
    rw [roundM] at q
    have := step_small hW hd (B := B + W) (by omega) l (i + 1) _ _ _ (fun e he => hl e (List.mem_cons_of_mem _ he)) key p x q
    rw [List.length_cons]
    have e : W * ((l.length + 1 : Nat) : Int) = W * (l.length : Int) + W := by rw [Int.natCast_add, Int.mul_add]; simp
    rw [e]
    omega
theorem settled_small {ds : List Dif} {W : Int} (hW : 0 ≤ W) (hd : ∀ d ∈ ds, -W ≤ d.2.2 ∧ d.2.2 ≤ W) : ∀ (k : Nat) (N S : Num) (B : Int), 0 ≤ B → (∀ p x, lookA N p = some x → -B ≤ x ∧ x ≤ B) → ∀ p x, lookA (settledM ds k N S).1 p = some x → -(B + W * ds.length * k) ≤ x ∧ x ≤ B + W * ds.length * k
  | 0, N, S, B, hB, h => fun p x e => by have := h p x e; simp; omega
  | k + 1, N, S, B, hB, h => by
    have key := step_small hW hd hB ds 0 N S false (fun _ h => h) h
    have w0 : 0 ≤ W * (ds.length : Int) := Int.mul_nonneg hW (Int.natCast_nonneg _)
    have e : W * (ds.length : Int) * ((k + 1 : Nat) : Int) = W * (ds.length : Int) * (k : Int) + W * ds.length := by rw [Int.natCast_add, Int.mul_add]; simp
    have w1 : 0 ≤ W * (ds.length : Int) * (k : Int) := Int.mul_nonneg w0 (Int.natCast_nonneg _)
    intro p x q
    rw [settledM] at q
    rw [e]
    by_cases c : (improvedM ds N S).2.2 = true
    · rw [if_pos c] at q
      have := settled_small hW hd k _ _ (B + W * ds.length) (by omega) key p x q
      omega
    · rw [if_neg c] at q
      have := key p x q
      omega
theorem bound_small {ds : List Dif} {ks : List PK} (hks : PtsOf ds ks) {W : Int} (hW : 0 ≤ W) (hd : ∀ d ∈ ds, -W ≤ d.2.2 ∧ d.2.2 ≤ W) (hf : FitM ds) {a b : PK} {x : Int} (h : BoundM ds a b (some x)) : -(W * ds.length * (ks.length + 1 : Nat)) ≤ x ∧ x ≤ W * ds.length * (ks.length + 1 : Nat) := by
  have e := BoundM.one h (settled_bound hks (k := ks.length + 1) (by omega) hf a b)
  have := settled_small hW hd (ks.length + 1) [(b, 0)] [] 0 (Int.le_refl 0) (fun p x q => by
    rw [lookA_cons, lookA_nil] at q
    by_cases c : b = p
    · rw [if_pos c] at q; cases q; omega
    · rw [if_neg c] at q; cases q) a x e.symm
  omega
/-! ### few points -/
/-- numbers of 3 points drawn together -/
theorem near3 (a b : Int) : ∃ a' b' : Int, -6 ≤ a' ∧ a' ≤ 6 ∧ -6 ≤ b' ∧ b' ≤ 6 ∧ a' ≤ max a (-2) ∧ -a' ≤ max (-a) (-2) ∧ b' ≤ max b (-2) ∧ -b' ≤ max (-b) (-2) ∧ a' - b' ≤ max (a - b) (-2) ∧ b' - a' ≤ max (b - a) (-2) := by
  rcases Int.le_total 0 a with h1 | h1 <;> rcases Int.le_total 0 b with h2 | h2
  · rcases Int.le_total a b with h3 | h3
    · exact ⟨min a 2, min a 2 + min (b - a) 2, by omega⟩
    · exact ⟨min b 2 + min (a - b) 2, min b 2, by omega⟩
  · exact ⟨min a 2, max b (-2), by omega⟩
  · exact ⟨max a (-2), min b 2, by omega⟩
  · rcases Int.le_total a b with h3 | h3
    · exact ⟨max b (-2) + max (a - b) (-2), max b (-2), by omega⟩
    · exact ⟨max a (-2), max a (-2) + max (b - a) (-2), by omega⟩
/-- the points of the rows are zero, p and q -/
theorem near_sol {ds : List Dif} {p q : PK} (hp : ∀ k ∈ allPts ds, k = zeroP ∨ k = p ∨ k = q) (hw : ∀ d ∈ ds, -2 ≤ d.2.2) (hf : FitM ds) : ∃ g, Sol ds g ∧ g zeroP = 0 ∧ ∀ k, -6 ≤ g k ∧ g k ≤ 6 := by
  obtain ⟨f, hs⟩ := hf
  obtain ⟨a', b', h1, h2, h3, h4, h5, h6, h7, h8, h9, h10⟩ := near3 (f p - f zeroP) (f q - f zeroP)
  have cl : ∃ g : PK → Int, g zeroP = 0 ∧ (∀ k, -6 ≤ g k ∧ g k ≤ 6) ∧ ∀ k, (k = zeroP ∨ k = p ∨ k = q) → (g k = 0 ∧ f k = f zeroP) ∨ (g k = a' ∧ f k = f p) ∨ (g k = b' ∧ f k = f q) := by
    refine ⟨fun k => if k = zeroP then 0 else if k = p then a' else if k = q then b' else 0, by simp, fun k => ?_, fun k hk => ?_⟩
    · dsimp only
      split
      · omega
      · split
        · omega
        · split <;> omega
    · dsimp only
      by_cases c1 : k = zeroP
      · exact .inl ⟨by rw [if_pos c1], by rw [c1]⟩
      · by_cases c2 : k = p
        · exact .inr (.inl ⟨by rw [if_neg c1, if_pos c2], by rw [c2]⟩)
        · have c3 : k = q := (hk.resolve_left c1).resolve_left c2
          exact .inr (.inr ⟨by rw [if_neg c1, if_neg c2, if_pos c3], by rw [c3]⟩)
  obtain ⟨g, g0, gb, gc⟩ := cl
  refine ⟨g, fun d hd => ?_, g0, gb⟩
  have e1 := gc d.1 (hp _ (List.mem_cons_of_mem _ (List.mem_flatMap.mpr ⟨d, hd, by simp⟩)))
  have e2 := gc d.2.1 (hp _ (List.mem_cons_of_mem _ (List.mem_flatMap.mpr ⟨d, hd, by simp⟩)))
  have s := hs d hd
  have w := hw d hd
  rcases e1 with ⟨x1, y1⟩ | ⟨x1, y1⟩ | ⟨x1, y1⟩ <;> rcases e2 with ⟨x2, y2⟩ | ⟨x2, y2⟩ | ⟨x2, y2⟩ <;> omega
end Mk


set_option Elab.async false
set_option linter.all false
set_option maxRecDepth 100000
set_option maxHeartbeats 400000
/-! the law's tries -/
namespace Mk
open PySem PySem.Spec PyProof.Rows L2
/-- each of them with a number of -6..6 for k -/
def widM (k : PK) (N : Num) : List Num := (List.range 13).map fun (j : Nat) => N ++ [(k, -6 + (j : Int))]
def triM (Ns : List Num) : List PK → List Num
  | [] => Ns
  | k :: ks => triM (if k = zeroP then Ns else Ns.flatMap (widM k)) ks
def triedM (ks : List PK) : List Num := triM [[(zeroP, 0)]] ks
theorem triM_snoc : ∀ (l : List PK) (Ns : List Num) (k : PK), triM Ns (l ++ [k]) = if k = zeroP then triM Ns l else (triM Ns l).flatMap (widM k)
  | [], Ns, k => rfl
  | x :: l, Ns, k => by rw [List.cons_append, triM, triM_snoc l]; rfl
theorem tri_keys : ∀ (l : List PK) (Ns : List Num) (N : Num), N ∈ triM Ns l → ∃ N0 ∈ Ns, N.map (·.1) = N0.map (·.1) ++ l.filter fun k => !decide (k = zeroP)
  | [], Ns, N, h => ⟨N, h, by simp⟩
  | k :: l, Ns, N, h => by
    rw [triM] at h
    obtain ⟨N1, h1, e1⟩ := tri_keys l _ N h
    by_cases c : k = zeroP
    · rw [if_pos c] at h1
      exact ⟨N1, h1, by rw [e1, List.filter_cons_of_neg (by simp [c])]⟩
    · rw [if_neg c] at h1
      obtain ⟨N0, h0, h2⟩ := List.mem_flatMap.mp h1
      obtain ⟨j, _, rfl⟩ := List.mem_map.mp h2
      refine ⟨N0, h0, ?_⟩
      rw [e1, List.filter_cons_of_pos (by simp [c]), List.map_append, List.append_assoc]; rfl
theorem tried_keys {l : List PK} {N : Num} (h : N ∈ triedM l) : N.map (·.1) = zeroP :: l.filter fun k => !decide (k = zeroP) := by
  obtain ⟨N0, h0, e⟩ := tri_keys l _ N h
  rw [List.mem_singleton] at h0
  rw [e, h0]; rfl
theorem wid_len : ∀ (Ns : List Num) (k : PK), (Ns.flatMap (widM k)).length = 13 * Ns.length
  | [], _ => rfl
  | N :: Ns, k => by
    rw [List.flatMap_cons, List.length_append, wid_len Ns k, List.length_cons, widM, List.length_map, List.length_range]; omega
theorem tri_len : ∀ (l : List PK) (Ns : List Num), (triM Ns l).length ≤ 13 ^ l.length * Ns.length
  | [], Ns => by simp [triM]
  | k :: l, Ns => by
    rw [triM]
    refine Nat.le_trans (tri_len l _) ?_
    rw [List.length_cons, Nat.pow_succ, Nat.mul_assoc]
    refine Nat.mul_le_mul_left _ ?_
    by_cases c : k = zeroP
    · rw [if_pos c]; omega
    · rw [if_neg c, wid_len]; exact Nat.le_refl _
theorem tried_len {l : List PK} (h : l.length ≤ 3) : (triedM l).length ≤ 2197 := by
  have := tri_len l [[(zeroP, 0)]]
  rw [List.length_singleton, Nat.mul_one] at this
  exact Nat.le_trans this (Nat.pow_le_pow_right (by decide) h)
section
variable {P : Program} {w : World} {K : PySem.W.Frag} {mg : Str → Option Value} {base : Heap}
/-- a list of dicts of numbers -/
def DLV (P : Program) (w : World) (K : PySem.W.Frag) (H : Hp) (p : Addr) (Ns : List Num) : Prop := ∃ xs, H p = some (.lst xs) ∧ Paired (fun N x => ∃ d, x = V.ref d ∧ DicW P w K H d (IM N)) Ns xs
theorem mergeP_nd : ∀ (l acc : List (PK × V)), ((acc ++ l).map (·.1)).Nodup → mergeP acc l = acc ++ l
  | [], acc, _ => by rw [List.append_nil]; rfl
  | p :: l, acc, h => by
    have e : mergeP acc (p :: l) = mergeP (putK acc p.1 p.2) l := rfl
    have hn : p.1 ∉ acc.map (·.1) := by
      rw [List.map_append, List.nodup_append] at h
      exact fun z => h.2.2 _ z _ (List.mem_map_of_mem List.mem_cons_self) rfl
    rw [e, putK_new hn, mergeP_nd]
    · rw [List.append_assoc]; rfl
    · rw [List.append_assoc]; exact h
/-- dict(list(one.items()) + [(point, number)]) -/
theorem dict_ok {σ : L2.St} {H : Hp} {R : VK} {d : Addr} {N : Num} {k : PK} {x : V} {n : Int} (h3 : σ[3]? = some (some x)) (h5 : σ[5]? = some (some (.ref d))) (h6 : σ[6]? = some (some (.int n))) (hd : DicW P w K H d (IM N)) (kx : KyV K H k x)
    (nd : (N.map (·.1)).Nodup) (hk : k ∉ N.map (·.1)) (ln : N.length ≤ 100) (q : ∀ H' D, Gx H H' → H D = none → DicW P w K H' D (IM (N ++ [(k, n)])) → R (.ref D) H') :
    tCB (rDictP P w K) (tCons (tOp rCat (tItems P w K (tVar 5)) (tLst (tCons (tTup (tCons (tVar 3) (tCons (tVar 6) tNil))) tNil))) tNil) σ H R := by
  refine ⟨_, h5, d, _, rfl, hd.r, fun H1 p ts g hp e len ht => ?_⟩
  refine ⟨_, h3, _, h6, Nat.le_of_ble_eq_true rfl, fun t et => ⟨Nat.le_of_ble_eq_true rfl, fun l fl => ?_⟩⟩
  have g1 : Gx H H1 := g
  have g2 := Gx.new (o := .tup [x, .int n]) et
  have a2 : (upd H1 t (.tup [x, .int n])) t = some (.tup [x, .int n]) := upd_same
  generalize upd H1 t (.tup [x, .int n]) = H2 at *
  have g3 := Gx.new (o := .lst [.ref t]) fl
  have a3 : (upd H2 l (.lst [.ref t])) l = some (.lst [.ref t]) := upd_same
  generalize upd H2 l (.lst [.ref t]) = H3 at *
  have lt : ts.length ≤ 100 := by rw [len, VM_len]; exact ln
  refine ⟨p, l, ts.map V.ref, [.ref t], rfl, rfl, g3 _ _ (g2 _ _ e), a3, line_le (m := 101) (by rw [List.length_map, List.length_singleton]; omega), fun m hm => ?_⟩
  have g4 := Gx.new (o := .lst (ts.map V.ref ++ [.ref t])) hm
  have a4 : (upd H3 m (.lst (ts.map V.ref ++ [.ref t]))) m = some (.lst (ts.map V.ref ++ [.ref t])) := upd_same
  generalize upd H3 m (.lst (ts.map V.ref ++ [.ref t])) = H4 at *
  have g14 := g2.trans (g3.trans g4)
  have gall := g1.trans g14
  have prs : ∀ (ts : List Addr) (kvs : List (PK × V)), ts.length = kvs.length → (∀ (j : Nat) (t : Addr) (q : PK × V), ts[j]? = some t → kvs[j]? = some q → ∃ y, H1 t = some (.tup [y, q.2]) ∧ KyV K H q.1 y) →
      Paired (fun p (kv : PK × V) => ∃ y, SqT K H4 p [y, kv.2] ∧ KyV K H4 kv.1 y) ts kvs := by
    intro ts
    induction ts with
    | nil => intro kvs hl _; cases kvs with
      | nil => exact .nil
      | cons _ _ => cases hl
    | cons t ts ih => intro kvs hl h; cases kvs with
      | nil => cases hl
      | cons q kvs =>
        obtain ⟨y, h1, h2⟩ := h 0 t q rfl rfl
        exact .cons ⟨y, .inl (.inl (g14 _ _ h1)), h2.keep gall.tk⟩ (ih kvs (Nat.succ.inj hl) fun j t q a b => h (j + 1) t q a b)
  refine ⟨m, ts ++ [t], IM N ++ [(k, .int n)], rfl, .inl (.inl (by rw [a4, List.map_append]; rfl)), pair_snoc (prs ts _ len ht) ⟨x, .inl (.inl ((g3.trans g4) _ _ a2)), kx.keep gall.tk⟩, fun D u hD dd => ?_⟩
  refine q _ D (gall.trans (.new hD)) (gall.free hD) ?_
  rw [mergeP_nd] at dd
  · rw [List.nil_append] at dd
    rw [IM, VM, List.map_append]
    exact dd
  · rw [List.nil_append, List.map_append, IM, VM, List.map_map, List.map_singleton, List.nodup_append]
    exact ⟨nd, by simp, fun a ha b hb => by rw [List.mem_singleton] at hb; subst hb; exact fun z => hk (z ▸ ha)⟩
theorem DLV.gx {H H' : Hp} {p : Addr} {Ns : List Num} (h : DLV P w K H p Ns) (g : Gx H H') : DLV P w K H' p Ns :=
  let ⟨xs, a, b⟩ := h
  ⟨xs, g _ _ a, Paired.mapP b fun _ _ ⟨d, e, z⟩ => ⟨d, e, g.dicW z⟩⟩
theorem dic_ne {H : Hp} {d D : Addr} {kvs : List (PK × V)} {ys : List V} (h : DicW P w K H d kvs) (e : H D = some (.lst ys)) : d ≠ D := fun z => by
  obtain ⟨xs, a, _⟩ := h
  rw [z, e] at a; cases a
/-- [dict(..) for number in range(..)] -/
theorem wid_ok {H : Hp} {R : VK} {d : Addr} {N : Num} {k : PK} {x : V} {x0 x2 x4 x6 : Option V} (hd : DicW P w K H d (IM N)) (kx : KyV K H k x) (nd : (N.map (·.1)).Nodup) (hk : k ∉ N.map (·.1)) (ln : N.length ≤ 100)
    (q : ∀ H' p, Gx H H' → H p = none → DLV P w K H' p (widM k N) → R (.ref p) H') :
    tLc (iRng2 (tCons (tOp (rI0 fun i j => V.int (i - j)) (tC (V.int 0)) (tVar 1)) (tCons (tOp (rI0 fun i j => V.int (i + j)) (tVar 1) (tC (V.int 1))) tNil))) (gName 6) tYes
      (tCB (rDictP P w K) (tCons (tOp rCat (tItems P w K (tVar 5)) (tLst (tCons (tTup (tCons (tVar 3) (tCons (tVar 6) tNil))) tNil))) tNil)) [6] [x0, some (.int 6), x2, some x, x4, some (.ref d), x6] H R := by
  refine ⟨_, rfl, _, _, rfl, rfl, _, rfl, _, _, rfl, rfl, _, _, rfl, by decide, fun D hD => ?_⟩
  refine lc_it (walk_range (lo := -6) (n := 13)) (PvG H D fun i ys H' => Paired (fun N x => ∃ d, x = V.ref d ∧ DicW P w K H' d (IM N)) ((widM k N).take i) ys) (PvG.ini hD (by rw [List.take_zero]; exact .nil)) (fun _ _ _ _ => trivial) (fun i y H1 H2 hi hP hY => ?_) (fun H1 hP => ?_)
  · obtain ⟨rfl, rfl⟩ := hY
    obtain ⟨g, ys, e, am⟩ := hP
    refine ⟨rfl, dict_ok (d := d) rfl rfl rfl (g.dicW hd) (kx.keep g.tk) nd hk ln fun H3 D3 g3 hD3 hd3 => ?_⟩
    have e3 := g3 _ _ e
    have ly : ys.length ≤ 13 := by rw [← Paired.length am]; exact take_len (by simp [widM])
    refine PvG.put (g.trans g3) hD e3 (line_lt ly) ?_
    have hw : (widM k N)[i]? = some (N ++ [(k, -6 + (i : Int))]) := by
      rw [widM, List.getElem?_map, List.getElem?_range hi]; rfl
    rw [take_s hw]
    have tm : Tk K H3 (upd H3 D (.lst (ys ++ [.ref D3]))) := Tk.mut (by rw [e3]; exact True.intro)
    exact pair_snoc (Paired.mapP am fun N' x' ⟨d', e', z⟩ => ⟨d', e', (g3.dicW z).keep (upd_ne (dic_ne (g3.dicW z) e3)) tm⟩) ⟨D3, rfl, hd3.keep (upd_ne (dic_ne hd3 e3)) tm⟩
  · obtain ⟨g, ys, e, am⟩ := hP
    rw [show (widM k N).take 13 = widM k N from List.take_of_length_le (by simp [widM])] at am
    exact q _ D g hD ⟨ys, e, am⟩
def spTri (P : Program) (w : World) (K : PySem.W.Frag) : Sp := fun vs H Q _ => ∃ (a : Addr) (ks : List PK), vs = [.ref a, .int 6] ∧ PLV K H a ks ∧ ks.Nodup ∧ (∀ k ∈ ks, GoodP k) ∧ ks.length ≤ 3 ∧
  ∀ H' p, Gx H H' → H p = none → DLV P w K H' p (triedM ks) → Q (.ref p) H'
theorem C__law_tried (T : Tops mg) (D : Def K mg "_law_tried" s__law_tried ["points", "most"]) : Cal P w K mg base "_law_tried" 1 ["points", "most"] (spTri P w K) := by
  refine Cal.of D sc__law_tried (fun vs H Q E h => ?_) (fun f cdv A outer s H vs Q E hr h => ?_)
  · obtain ⟨k, c, rfl, _⟩ := h; rfl
  · obtain ⟨a, ks, rfl, plv, nd, gk, lk, q⟩ := h
    have hu := hu_of hr
    have h0 := hr.units0
    have h64 := hr.units
    have h3 := units3 hr
    refine ⟨_, (pss_cons (ps_set (i := 2) sc__law_tried.nd rfl (Or.inl rfl) (pe_lst (pa_cons (pe_disp1 h0 pe_str pe_int) pa_nil)))
      (pss_cons (ps_for PassesOwn.never rfl (pi_list (pv 0)) (pg_name (i := 3) sc__law_tried.nd rfl (Or.inr rfl))
      (pss_one (ps_if (pt_cmpR (op_neD h64) (pv 3) pe_str (nomark _)) (pss_cons (ps_set (i := 4) sc__law_tried.nd rfl (Or.inl rfl) (pe_lst pa_nil))
      (pss_cons (ps_for PassesOwn.never rfl (pi_list (pv 2)) (pg_name (i := 5) sc__law_tried.nd rfl (Or.inr rfl))
      (pss_one (ps_set (i := 4) sc__law_tried.nd rfl (Or.inl rfl) (pe_op op_cat (pv 4) (pe_lc (own := [("number", 6)]) rfl sc__law_tried.nd (pi_range2 (by rfl) T.b_range (pa_cons (pe_op op_sub pe_int (pv 1)) (pa_cons (pe_op op_add (pv 1) pe_int) pa_nil))) (blkOk_by (own := [("number", 6)]) (N := N__law_tried) (sc := defScope s__law_tried) (by decide +kernel)) (fun _ _ _ _ _ => (pg_name (i := 6) sc__law_tried.nd rfl (Or.inl rfl))) (fun _ _ _ _ _ => pts_nil) (fun _ _ _ _ _ => (pe_callTy (call_dictPP' h3 rfl (P := P) (w := w) (K := K) rfl rfl rfl) (by rfl) T.b_dict (by decide +kernel) (pa_cons (pe_op op_cat (pe_eqv (t' := tItems P w K _) (pe_items rfl (pv 5) (by rfl) T.b_list (by decide +kernel)) rfl) (pe_lst (pa_cons (pe_tup (pa_cons (pv 3) (pa_cons (pv 6) pa_nil))) pa_nil))) pa_nil))))))))
      (pss_one (ps_set (i := 2) sc__law_tried.nd rfl (Or.inl rfl) (pv 4))))) pss_nil)))
      (pss_one (ps_ret (pv 2))))), ?_⟩
    simp only [cxOf, Cx.nox, L2.start, tRet, tAndV, tOrV, tNotV, tCB, tCons, tNil, tVar, tC, tOp, tUn, tChain, tIfS, tTest, tSeq, tNext, tB, tOr, tAnd, tNot, tAsg, tDrop, tCall, rI0, rI, rU, List.cons_append, List.nil_append, List.append_nil, List.map_cons, List.map_nil, List.length_cons, List.length_nil, Nat.reduceAdd, Nat.reduceSub, List.replicate_succ, List.replicate_zero, List.getElem?_cons_zero, List.getElem?_cons_succ, Option.some.injEq, exists_eq_left, exists_eq_left', exists_eq_right, V.int.injEq, V.bl.injEq, V.str.injEq, V.ref.injEq, true_and, and_true, exists_and_left, if_true, if_false, gTup, gCons, gNil, gSub, gName, Mk.rSetD, List.set_cons_zero, List.set_cons_succ, Bool.false_eq_true, List.cons.injEq, Bool.not_true, Bool.not_false, eq_self, decide_true, decide_false, c3, N__law_tried]
    obtain ⟨xs, hx, pr⟩ := plv
    intro z u hz hz0
    refine ⟨zeroP, rfl, hz0, fun u1 hz1 => ⟨Nat.le_of_ble_eq_true rfl, fun F hF => ?_⟩⟩
    rw [upd_upd] at hz1 hF ⊢
    have g1 : Gx H (upd H z u1) := .new hz
    generalize upd H z u1 = H1 at *
    have g2 := Gx.new (o := .lst [.ref z]) hF
    have a2 : (upd H1 F (.lst [.ref z])) F = some (.lst [.ref z]) := upd_same
    generalize upd H1 F (.lst [.ref z]) = H2 at *
    have g12 := g1.trans g2
    have lenx : xs.length = ks.length := (Paired.length pr).symm
    refine ⟨_, rfl, a, rfl, ⟨xs, .inl (.inl (g12 _ _ hx))⟩, for_it (walk_list (xs := xs)) (fun i σ H' => ∃ F' x3 x4 x5 x6, σ = [some (.ref a), some (.int 6), some (.ref F'), x3, x4, x5, x6] ∧ Gx H H' ∧ H F' = none ∧ DLV P w K H' F' (triedM (ks.take i)))
      ⟨F, none, none, none, none, rfl, g12, g1.free hF, _, a2, .cons ⟨z, rfl, g2.dicW hz1⟩ .nil⟩ (fun i σ H' _ h => ?_) (fun i x σ H3 H4 hi hP hY => ?_) (fun σ H3 hP => ?_)⟩
    · obtain ⟨_, _, _, _, _, _, g, _⟩ := h
      exact .inl (.inl (g _ _ hx))
    · obtain ⟨rfl, hxi⟩ := hY
      obtain ⟨F', x3, x4, x5, x6, rfl, g, hF', dl⟩ := hP
      obtain ⟨k, hk, kx⟩ := pair_at pr hxi
      have kx4 := kx.keep g.tk
      have gkk := gk k (List.mem_of_getElem? hk)
      have ts : triedM (ks.take (i + 1)) = if k = zeroP then triedM (ks.take i) else (triedM (ks.take i)).flatMap (widM k) := by rw [take_s hk, triedM, triM_snoc]; rfl
      refine ⟨_, rfl, ptD k, ptD zeroP, kx4.dp, KyV.dp (k := zeroP) rfl, shaped_pt gkk, shaped_pt ⟨by decide, by decide⟩, _, rfl, ?_⟩
      rw [eqv_pt]
      by_cases c : k = zeroP
      · rw [decide_eq_true c]
        refine ⟨F', _, _, _, _, rfl, g, hF', ?_⟩
        rw [ts, if_pos c]; exact dl
      · rw [decide_eq_false c]
        rw [if_neg c] at ts
        refine ⟨Nat.zero_le _, fun W hW => ?_⟩
        have g5 := Gx.new (o := .lst []) hW
        have a5 : (upd H4 W (.lst [])) W = some (.lst []) := upd_same
        generalize upd H4 W (.lst []) = H5 at *
        have dl5 := dl.gx g5
        obtain ⟨ds, hds, prd⟩ := dl5
        have nk : ∀ N ∈ triedM (ks.take i), (N.map (·.1)).Nodup ∧ k ∉ N.map (·.1) ∧ N.length ≤ 100 := fun N hN => by
          have e := tried_keys hN
          have ndt : (ks.take i).Nodup := nd.sublist (List.take_sublist i ks)
          have kn : k ∉ ks.take i := fun z => by
            obtain ⟨n, hn, e⟩ := List.mem_iff_getElem.mp z
            rw [List.length_take] at hn
            rw [List.getElem_take] at e
            obtain ⟨il, e2⟩ := List.getElem?_eq_some_iff.mp hk
            exact (List.pairwise_iff_getElem.mp (List.nodup_iff_pairwise_ne.mp nd)) n i (by omega) il (by omega) (e.trans e2.symm)
          refine ⟨?_, ?_, ?_⟩
          · rw [e, List.nodup_cons]
            refine ⟨fun z => ?_, ndt.filter _⟩
            have := (List.mem_filter.mp z).2
            simp at this
          · rw [e]
            intro z
            rcases List.mem_cons.mp z with h | h
            · exact c h
            · exact kn (List.mem_filter.mp h).1
          · have := congrArg List.length e
            rw [List.length_map, List.length_cons] at this
            have h2 := List.length_filter_le (fun k => !decide (k = zeroP)) (ks.take i)
            have h3 := take_len (i := i) lk
            omega
        have lT : (triedM (ks.take i)).length ≤ 2197 := tried_len (take_len lk)
        refine ⟨_, rfl, F', rfl, ⟨_, .inl (.inl hds)⟩, for_it (walk_list (xs := ds)) (fun j σ H' => ∃ W' x5 x6, σ = [some (.ref a), some (.int 6), some (.ref F'), some x, some (.ref W'), x5, x6] ∧ Gx H5 H' ∧ H W' = none ∧ DLV P w K H' W' (((triedM (ks.take i)).take j).flatMap (widM k)))
          ⟨W, _, _, rfl, .refl, g.free hW, _, a5, .nil⟩ (fun j σ H' _ h => ?_) (fun j y σ H6 H7 hj hP hY => ?_) (fun σ H6 hP => ?_)⟩
        · obtain ⟨_, _, _, _, g, _⟩ := h
          exact .inl (.inl (g _ _ hds))
        · obtain ⟨rfl, hyj⟩ := hY
          obtain ⟨W', y5, y6, rfl, g6, hW', ⟨ws, hws, prw⟩⟩ := hP
          obtain ⟨N, hN, d, rfl, hd⟩ := pair_at prd hyj
          obtain ⟨n1, n2, n3⟩ := nk N (List.mem_of_getElem? hN)
          refine ⟨_, rfl, wid_ok (g6.dicW hd) (kx4.keep (g5.trans g6).tk) n1 n2 n3 fun H8 C g8 hC ⟨cs, hcs, prc⟩ => ?_⟩
          have lc : cs.length = 13 := by rw [← Paired.length prc]; simp [widM]
          have lw : ws.length ≤ 28561 := by
            rw [← Paired.length prw, wid_len]
            have := take_len (i := j) lT
            omega
          refine ⟨W', C, ws, cs, rfl, rfl, g8 _ _ hws, hcs, line_le (m := 50000) (by omega), fun V' hV' => ?_⟩
          have g9 := Gx.new (o := .lst (ws ++ cs)) hV'
          have gg := g.trans (g5.trans (g6.trans (g8.trans g9)))
          refine ⟨V', _, _, rfl, g6.trans (g8.trans g9), (g.trans (g5.trans (g6.trans g8))).free hV', ws ++ cs, upd_same, ?_⟩
          rw [take_s hN, List.flatMap_append, List.flatMap_singleton]
          exact pair_app (Paired.mapP prw fun _ _ ⟨d, e, z⟩ => ⟨d, e, (g8.trans g9).dicW z⟩) (Paired.mapP prc fun _ _ ⟨d, e, z⟩ => ⟨d, e, g9.dicW z⟩)
        · obtain ⟨W', y5, y6, rfl, g6, hW', dlw⟩ := hP
          rw [← Paired.length prd, List.take_length] at dlw
          refine ⟨_, rfl, W', _, _, _, _, rfl, g.trans (g5.trans g6), hW', ?_⟩
          rw [ts]; exact dlw
    · obtain ⟨F', x3, x4, x5, x6, rfl, g, hF', dl⟩ := hP
      rw [lenx, List.take_length] at dl
      exact ⟨_, rfl, q H3 F' g hF' dl⟩
end
end Mk


set_option Elab.async false
set_option linter.all false
set_option maxRecDepth 100000
set_option maxHeartbeats 400000
/-! the law's judges of one row of numbers and of one tightest number -/
namespace Mk
open PySem PySem.Spec PyProof.Rows L2
def getM (N : Num) (k : PK) : Int := (lookA N k).getD 0
def trueM (ds : List Dif) (N : Num) : Bool := ds.all fun d => decide (getM N d.1 - getM N d.2.1 ≤ d.2.2)
section
variable {P : Program} {w : World} {K : PySem.W.Frag} {mg : Str → Option Value} {base : Heap}
theorem dsv_row {H : Hp} {ds : List Dif} {vs : List V} {i : Nat} {x : V} (h : Paired (DifV K H) ds vs) (e : vs[i]? = some x) : ∃ d, ds[i]? = some d ∧ DifV K H d x := pair_at h e
/-- row[0], row[1], row[2] -/
theorem row_ok {H : Hp} {σ : L2.St} {d : Dif} {x : V} {i : Nat} (hi : σ[i]? = some (some x)) (hx : DifV K H d x) : (∀ R : VK, (∀ y, KyV K H d.1 y → R y H) → tOp (rIxT K) (tVar i) (tC (V.int 0)) σ H R) ∧ (∀ R : VK, (∀ y, KyV K H d.2.1 y → R y H) → tOp (rIxT K) (tVar i) (tC (V.int 1)) σ H R) ∧
    ∀ R : VK, R (.int d.2.2) H → tOp (rIxT K) (tVar i) (tC (V.int 2)) σ H R := by
  obtain ⟨p, y1, y2, rfl, hp, k1, k2⟩ := hx
  exact ⟨fun R q => ⟨_, hi, p, _, 0, _, rfl, rfl, hp, atI_nat (j := 0) rfl, q _ k1⟩, fun R q => ⟨_, hi, p, _, 1, _, rfl, rfl, hp, atI_nat (j := 1) rfl, q _ k2⟩, fun R q => ⟨_, hi, p, _, 2, _, rfl, rfl, hp, atI_nat (j := 2) rfl, q⟩⟩
def spAre (P : Program) (w : World) (K : PySem.W.Frag) : Sp := fun vs H Q _ => ∃ v d ds N, vs = [v, .ref d] ∧ DsV K H ds v ∧ ds.length ≤ 60 ∧ DicW P w K H d (IM N) ∧ (∀ k ∈ allPts ds, k ∈ N.map (·.1)) ∧ ∀ H', Gx H H' → Q (.bl (trueM ds N)) H'
theorem C__law_are_true (T : Tops mg) (D : Def K mg "_law_are_true" s__law_are_true ["differences", "numbers"]) : Cal P w K mg base "_law_are_true" 1 ["differences", "numbers"] (spAre P w K) := by
  refine Cal.of D sc__law_are_true (fun vs H Q E h => ?_) (fun f cdv A outer s H vs Q E hr h => ?_)
  · obtain ⟨v, d, ds, N, rfl, _⟩ := h; rfl
  · obtain ⟨v, d, ds, N, rfl, ⟨a, vs, rfl, hS, hv⟩, hl, hN, hk, q⟩ := h
    have hu := hu_of hr
    have h0 := hr.units0
    refine ⟨_, (pss_one (ps_ret (pe_cmpR (op_eqE h0) (pe_lc (own := [("row", 2)]) rfl sc__law_are_true.nd (pi_tup (pv 0)) (blkOk_by (own := [("row", 2)]) (N := N__law_are_true) (sc := defScope s__law_are_true) (by decide +kernel)) (fun _ _ _ _ _ => (pg_name (i := 2) sc__law_are_true.nd rfl (Or.inl rfl))) (fun _ _ _ _ _ => (pts_one (pt_cmpR op_gt (pe_op op_sub (pe_ix (ix_dic' hu (P := P) (w := w) (K := K) rfl rfl rfl) (pv 1) (pe_ix (ix_tup' (K := K) rfl) (pv 2) pe_int (fun _ _ => rfl)) (fun _ _ => rfl)) (pe_ix (ix_dic' hu (P := P) (w := w) (K := K) rfl rfl rfl) (pv 1) (pe_ix (ix_tup' (K := K) rfl) (pv 2) pe_int (fun _ _ => rfl)) (fun _ _ => rfl))) (pe_ix (ix_tup' (K := K) rfl) (pv 2) pe_int (fun _ _ => rfl)) (nomark _)))) (fun _ _ _ _ _ => (pv 2))) (pe_lst pa_nil) (nomark _)))), ?_⟩
    have lv : vs.length ≤ 60 := by rw [← Paired.length hv]; exact hl
    refine ⟨_, rfl, a, rfl, ⟨_, hS⟩, fun D hD => lc_it (walk_tup (xs := vs)) (PvG H D fun i ys _ => ys.length ≤ i ∧ ys.isEmpty = trueM (ds.take i) N) (PvG.ini hD ⟨Nat.le_refl _, by rw [List.take_zero]; rfl⟩) (fun _ _ _ h => h.1.seqT hS) (fun i x H1 H2 hi hP hY => ?_) (fun H1 hP => ?_)⟩
    · obtain ⟨rfl, hx⟩ := hY
      obtain ⟨g, ys, e, ly, am⟩ := hP
      obtain ⟨d', hd', dx⟩ := pair_at hv hx
      have dx := dx.keep g.tk
      have dm := List.mem_of_getElem? hd'
      have get : ∀ {k y} {R : VK}, k ∈ allPts ds → KyV K H2 k y → R (.int (getM N k)) H2 → Mk.rIxD P w K (.ref d) y H2 R := fun hkk ky r => by
        obtain ⟨b, hb⟩ := mem_look (hk _ hkk)
        rw [getM, hb] at r
        exact ⟨d, _, _, .int b, rfl, (g.dicW hN).r, ky, by rw [VM_look, hb]; rfl, r⟩
      have m1 : d'.1 ∈ allPts ds := List.mem_cons_of_mem _ (List.mem_flatMap.mpr ⟨d', dm, by simp⟩)
      have m2 : d'.2.1 ∈ allPts ds := List.mem_cons_of_mem _ (List.mem_flatMap.mpr ⟨d', dm, by simp⟩)
      have tk : trueM (ds.take (i + 1)) N = (trueM (ds.take i) N && decide (getM N d'.1 - getM N d'.2.1 ≤ d'.2.2)) := by rw [take_s hd', trueM, trueM, List.all_append]; simp
      refine ⟨rfl, ?_⟩
      refine ⟨_, rfl, (row_ok (i := 2) rfl dx).1 _ fun y1 k1 => get m1 k1 ⟨_, rfl, (row_ok (i := 2) rfl dx).2.1 _ fun y2 k2 => get m2 k2 ⟨_, _, rfl, rfl, (row_ok (i := 2) rfl dx).2.2 _ ⟨_, _, rfl, rfl, _, rfl, ?_⟩⟩⟩⟩
      by_cases c : d'.2.2 < getM N d'.1 - getM N d'.2.1
      · rw [decide_eq_true c]
        refine ⟨x, rfl, PvG.put g hD e (line_lt (m := 60) (by omega)) ⟨by rw [List.length_append]; simp; omega, ?_⟩⟩
        rw [tk, decide_eq_false (by omega), Bool.and_false]
        simp
      · rw [decide_eq_false c]
        refine ⟨g, ys, e, by omega, ?_⟩
        rw [tk, decide_eq_true (by omega), Bool.and_true]
        exact am
    · obtain ⟨g, ys, e, ly, am⟩ := hP
      rw [← Paired.length hv, List.take_length] at am
      refine ⟨Nat.zero_le _, fun E2 hE => ⟨D, E2, ys, rfl, rfl, .inl (.inl ((Gx.new hE) _ _ e)), .inl (.inl upd_same), ?_⟩⟩
      rw [am]
      exact q _ (g.trans (.new hE))
def spNear (K : PySem.W.Frag) : Sp := fun vs H Q _ => ∃ (a : Addr) (ks : List PK) (t : Int), vs = [.ref a, .int 6, .int t] ∧ PLV K H a ks ∧ Q (.bl (decide (ks.length < 3) && decide (-6 ≤ t ∧ t ≤ 6))) H
theorem C__law_is_near (T : Tops mg) (D : Def K mg "_law_is_near" s__law_is_near ["names", "most", "told"]) : Cal P w K mg base "_law_is_near" 1 ["names", "most", "told"] (spNear K) := by
  refine Cal.of D sc__law_is_near (fun vs H Q E h => ?_) (fun f cdv A outer s H vs Q E hr h => ?_)
  · obtain ⟨a, ks, t, rfl, _⟩ := h; rfl
  · obtain ⟨a, ks, t, rfl, ⟨xs, hx, pr⟩, q⟩ := h
    have hu := hu_of hr
    have h0 := hr.units0
    refine ⟨_, (pss_one (ps_ret (pe_and (pe_cmpR op_lt (pe_callB call_len_seq (by rfl) T.b_len (by decide +kernel) (pa_cons (pv 0) pa_nil)) pe_int (nomark _)) (pe_one (pe_cmpR op_le (pe_callB call_abs (by rfl) T.b_abs (by decide +kernel) (pa_cons (pv 2) pa_nil)) (pv 1) (nomark _)))))), ?_⟩
    simp only [cxOf, Cx.nox, L2.start, tRet, tAndV, tOrV, tNotV, tCB, tCons, tNil, tVar, tC, tOp, tUn, tChain, tIfS, tTest, tSeq, tNext, tB, tOr, tAnd, tNot, tAsg, tDrop, tCall, rI0, rI, rU, List.cons_append, List.nil_append, List.append_nil, List.map_cons, List.map_nil, List.length_cons, List.length_nil, Nat.reduceAdd, Nat.reduceSub, List.replicate_succ, List.replicate_zero, List.getElem?_cons_zero, List.getElem?_cons_succ, Option.some.injEq, exists_eq_left, exists_eq_left', exists_eq_right, V.int.injEq, V.bl.injEq, V.str.injEq, V.ref.injEq, true_and, and_true, exists_and_left, if_true, if_false, gTup, gCons, gNil, gSub, gName, Mk.rSetD, List.set_cons_zero, List.set_cons_succ, Bool.false_eq_true, List.cons.injEq, Bool.not_true, Bool.not_false, eq_self, decide_true, decide_false, c3, N__law_is_near]
    refine ⟨xs, .inl (.inl (.inl hx)), ?_⟩
    rw [← Paired.length pr]
    by_cases c : ks.length < 3
    · rw [decide_eq_true (show (ks.length : Int) < 3 by omega)]
      rw [decide_eq_true c, Bool.true_and] at q
      rw [if_pos rfl]
      rw [show decide ((if t < 0 then -t else t) ≤ 6) = decide (-6 ≤ t ∧ t ≤ 6) by
        by_cases z : t < 0
        · rw [if_pos z]; exact decide_eq_decide.mpr (by omega)
        · rw [if_neg z]; exact decide_eq_decide.mpr (by omega)]
      exact q
    · rw [decide_eq_false (show ¬ (ks.length : Int) < 3 by omega)]
      rw [decide_eq_false c, Bool.false_and] at q
      rw [if_neg Bool.false_ne_true]
      exact q
end
end Mk


set_option Elab.async false
set_option linter.all false
set_option maxRecDepth 100000
set_option maxHeartbeats 400000
/-! the law's judge of one tightest number -/
namespace Mk
open PySem PySem.Spec PyProof.Rows L2
/-- what the law draws -/
def SmallDs (ds : List Dif) : Prop := ds.length ≤ 6 ∧ ∀ d ∈ ds, GoodP d.1 ∧ GoodP d.2.1 ∧ -2 ≤ d.2.2 ∧ d.2.2 ≤ 2
theorem SmallDs.good {ds : List Dif} (h : SmallDs ds) : GoodDs ds := ⟨by have := h.1; omega, fun d hd => by obtain ⟨a, b, c, e⟩ := h.2 d hd; exact ⟨a, b, by omega, by omega⟩⟩
theorem good_snoc {ds : List Dif} (h : SmallDs ds) {p q : PK} {n : Int} (gp : GoodP p) (gq : GoodP q) (h1 : -(10 ^ 60) < n) (h2 : n < 10 ^ 60) : GoodDs (ds ++ [(p, q, n)]) := by
  refine ⟨by have := h.1; rw [List.length_append, List.length_singleton]; omega, fun d hd => ?_⟩
  rcases List.mem_append.mp hd with hd | hd
  · exact h.good.2 d hd
  · rw [List.mem_singleton] at hd
    subst hd
    exact ⟨gp, gq, h1, h2⟩
theorem sol_snoc {ds : List Dif} {p q : PK} {n : Int} {f : PK → Int} : Sol (ds ++ [(p, q, n)]) f ↔ Sol ds f ∧ f p - f q ≤ n := by
  constructor
  · intro h
    exact ⟨fun d hd => h d (List.mem_append_left _ hd), h (p, q, n) (List.mem_append_right _ List.mem_cons_self)⟩
  · rintro ⟨h1, h2⟩ d hd
    rcases List.mem_append.mp hd with hd | hd
    · exact h1 d hd
    · rw [List.mem_singleton] at hd
      subst hd; exact h2
section
variable {P : Program} {w : World} {K : PySem.W.Frag} {mg : Str → Option Value} {base : Heap}
/-- differences + ((p, q, n),) -/
theorem ext_ok {H : Hp} {σ : L2.St} {R : VK} {v x y : V} {ds : List Dif} {p q : PK} {n : Int} {i j : Nat} {tc : TE} (hv : DsV K H ds v) (ld : ds.length ≤ 100) (h0 : σ[0]? = some (some v)) (hi : σ[i]? = some (some x)) (hj : σ[j]? = some (some y)) (kx : KyV K H p x) (ky : KyV K H q y)
    (hc : ∀ R' : VK, R' (.int n) H → tc σ H R') (hq : ∀ H' v', Gx H H' → DsV K H' (ds ++ [(p, q, n)]) v' → R v' H') :
    tOp (rCatA K) (tVar 0) (tTup (tCons (tTup (tCons (tVar i) (tCons (tVar j) (tCons tc tNil)))) tNil)) σ H R := by
  obtain ⟨a, vs, rfl, hS, pr⟩ := hv
  refine ⟨_, h0, _, hi, _, hj, hc _ ⟨Nat.le_of_ble_eq_true rfl, fun t ht => ⟨Nat.le_of_ble_eq_true rfl, fun u hu => ?_⟩⟩⟩
  have g1 := Gx.new (o := .tup [x, y, .int n]) ht
  have a1 : (upd H t (.tup [x, y, .int n])) t = some (.tup [x, y, .int n]) := upd_same
  generalize upd H t (.tup [x, y, .int n]) = H1 at *
  have g2 := Gx.new (o := .tup [.ref t]) hu
  have a2 : (upd H1 u (.tup [.ref t])) u = some (.tup [.ref t]) := upd_same
  generalize upd H1 u (.tup [.ref t]) = H2 at *
  have g12 := g1.trans g2
  have lv : vs.length ≤ 100 := by rw [← Paired.length pr]; exact ld
  have dif : ∀ {H'}, Gx H2 H' → DifV K H' (p, q, n) (.ref t) := fun g => ⟨t, x, y, rfl, .inl (.inl (g _ _ (g2 _ _ a1))), kx.keep (g12.trans g).tk, ky.keep (g12.trans g).tk⟩
  refine ⟨a, u, vs, [.ref t], rfl, rfl, g12.seqT hS, .inl (.inl a2), line_le (m := 101) (by rw [List.length_singleton]; omega), fun e => ?_, fun _ e => (by cases e), fun _ _ m hm => ?_⟩
  · subst e
    cases pr
    exact hq H2 _ g12 ⟨u, [.ref t], rfl, .inl (.inl a2), .cons (dif .refl) .nil⟩
  · have g3 := Gx.new (o := .tup (vs ++ [.ref t])) hm
    exact hq _ _ (g12.trans g3) ⟨m, _, rfl, .inl (.inl upd_same), pair_snoc (Paired.mapP pr fun _ _ z => z.keep (g12.trans g3).tk) (dif g3)⟩
theorem isn_y {A B : Prop} (a : A) : V.non = V.non ∧ ∃ k, V.bl (decide (V.non = V.non)) = V.bl k ∧ if k = true then A else B := ⟨rfl, true, by simp, by simpa using a⟩
theorem isn_n {x : V} {A B : Prop} (hx : x ≠ .non) (b : B) : V.non = V.non ∧ ∃ k, V.bl (decide (x = V.non)) = V.bl k ∧ if k = true then A else B := ⟨rfl, false, by simp [hx], by simpa using b⟩
def oV (o : Option Int) : V := o.elim .non .int
def spBri (K : PySem.W.Frag) : Sp := fun vs H Q _ => ∃ v x y ds one other o, vs = [v, x, y, oV o] ∧ DsV K H ds v ∧ SmallDs ds ∧ KyV K H one x ∧ KyV K H other y ∧ GoodP one ∧ GoodP other ∧ FitM ds ∧ BoundM ds one other o ∧ (∀ b, o = some b → -100000 ≤ b ∧ b ≤ 100000) ∧ ∀ H', Gx H H' → Q (.bl true) H'
theorem C__law_bound_right (T : Tops mg) (D : Def K mg "_law_bound_right" s__law_bound_right ["differences", "one", "other", "told"]) (C_fitting : Cal P w K mg base "fitting" 6 ["differences"] (spFit P w K)) (C_ring : Cal P w K mg base "ring" 6 ["differences"] (spRof K)) (C_tightest : Cal P w K mg base "tightest" 6 ["differences", "one", "other"] (spTig K)) : Cal P w K mg base "_law_bound_right" 7 ["differences", "one", "other", "told"] (spBri K) := by
  refine Cal.of D sc__law_bound_right (fun vs H Q E h => ?_) (fun f cdv A outer s H vs Q E hr h => ?_)
  · obtain ⟨v, x, y, ds, one, other, o, rfl, _⟩ := h; rfl
  · obtain ⟨v, x, y, ds, one, other, o, rfl, hv, sm, kx, ky, gx, gy, hf, bd, sb, q⟩ := h
    have hu := hu_of hr
    have h0 := hr.units0
    have h64 := hr.units
    refine ⟨_, (pss_cons (ps_set (i := 4) sc__law_bound_right.nd rfl (Or.inl rfl) (pe_ifExp (pt_cmpR op_isN (pv 3) pe_non (nomark _)) pe_int (pv 3)))
      (pss_cons (ps_if (pt_cmpR op_isN (pe_cal C_fitting hr (by decide) (by rfl) (pa_cons (pe_op op_catA (pv 0) (pe_tup (pa_cons (pe_tup (pa_cons (pv 2) (pa_cons (pv 1) (pa_cons (pe_op op_sub pe_int (pv 4)) pa_nil)))) pa_nil))) pa_nil)) pe_non (nomark _)) (pss_one (ps_ret pe_bl)) pss_nil)
      (pss_cons (ps_if (pt_cmpR op_isN (pv 3) pe_non (nomark _)) (pss_one (ps_ret pe_bl)) pss_nil)
      (pss_cons (ps_if (pt_cmpR op_isN (pe_cal C_ring hr (by decide) (by rfl) (pa_cons (pe_op op_catA (pv 0) (pe_tup (pa_cons (pe_tup (pa_cons (pv 2) (pa_cons (pv 1) (pa_cons (pe_op op_sub (pe_un un_neg pe_int) (pv 3)) pa_nil)))) pa_nil))) pa_nil)) pe_non (nomark _)) (pss_one (ps_ret pe_bl)) pss_nil)
      (pss_cons (ps_set (i := 5) sc__law_bound_right.nd rfl (Or.inl rfl) (pe_op op_catA (pv 0) (pe_tup (pa_cons (pe_tup (pa_cons (pv 1) (pa_cons (pv 2) (pa_cons (pv 3) pa_nil)))) pa_nil))))
      (pss_one (ps_ret (pe_and (pe_cmpR op_eq (pe_cal C_tightest hr (by decide) (by rfl) (pa_cons (pv 5) (pa_cons (pv 1) (pa_cons (pv 2) pa_nil)))) (pv 3) (nomark _)) (pe_one (pe_cmpR op_eq (pe_cal C_tightest hr (by decide) (by rfl) (pa_cons (pv 5) (pa_cons (pv 2) (pa_cons (pv 1) pa_nil)))) (pe_cal C_tightest hr (by decide) (by rfl) (pa_cons (pv 0) (pa_cons (pv 2) (pa_cons (pv 1) pa_nil)))) (nomark _))))))))))), ?_⟩
    have ld : ds.length ≤ 100 := by have := sm.1; omega
    have lg : SmallDs ds := sm
    have fitX : ∀ n : Int, (∃ f, Sol ds f ∧ n ≤ f one - f other) → FitM (ds ++ [(other, one, 0 - n)]) := fun n ⟨f, h1, h2⟩ => ⟨f, sol_snoc.mpr ⟨h1, by omega⟩⟩
    rcases o with _ | b
    · refine ⟨_, rfl, isn_y ?_⟩
      refine ext_ok (i := 2) (j := 1) hv ld rfl rfl rfl ky kx (n := 0 - 50) (fun R' r => ⟨_, rfl, 0, 50, rfl, rfl, r⟩) fun H1 v1 g1 hv1 => ?_
      refine ⟨v1, _, rfl, hv1, good_snoc sm gy gx (by decide) (by decide), fun h => absurd (fitX 50 ?_) h, fun _ H2 p ks g g2 hp pts hd hs hz => isn_n (by simp) ?_⟩
      · obtain ⟨f, h1, h2⟩ := bd 50
        exact ⟨f, h1, by omega⟩
      refine ⟨_, rfl, isn_y ?_⟩
      exact q _ (g1.trans g2)
    · have hb := sb b rfl
      obtain ⟨bh, f0, fs, fe⟩ := id bd
      refine ⟨_, rfl, isn_n (by simp [oV]) ?_⟩
      refine ⟨_, rfl, ?_⟩
      refine ext_ok (i := 2) (j := 1) hv ld rfl rfl rfl ky kx (n := 0 - b) (fun R' r => ⟨_, rfl, 0, b, rfl, rfl, r⟩) fun H1 v1 g1 hv1 => ?_
      refine ⟨v1, _, rfl, hv1, good_snoc sm gy gx (by omega) (by omega), fun h => absurd (fitX b ⟨f0, fs, by omega⟩) h, fun _ H2 p ks g g2 hp pts hd hs hz => isn_n (by simp) ?_⟩
      refine ⟨_, rfl, isn_n (by simp [oV]) ?_⟩
      have g12 := g1.trans g2
      refine ext_ok (i := 2) (j := 1) (hv.keep g12.tk) ld rfl rfl rfl (ky.keep g12.tk) (kx.keep g12.tk) (n := -1 - b) (fun R' r => ⟨1, rfl, _, rfl, -1, b, rfl, rfl, r⟩) fun H3 v3 g3 hv3 => ?_
      have nofit : ¬ FitM (ds ++ [(other, one, -1 - b)]) := fun ⟨f, h⟩ => by
        obtain ⟨h1, h2⟩ := sol_snoc.mp h
        have := bh f h1
        omega
      refine ⟨v3, _, rfl, hv3, good_snoc sm gy gx (by omega) (by omega), fun h => absurd h nofit, fun _ H4 p4 rs g4 hp4 hs4 => isn_n (by simp) ?_⟩
      have g14 := g12.trans (g3.trans g4)
      refine ext_ok (i := 1) (j := 2) (hv.keep g14.tk) ld rfl rfl rfl (kx.keep g14.tk) (ky.keep g14.tk) (n := b) (fun R' r => ⟨_, rfl, r⟩) fun H5 v5 g5 hv5 => ?_
      have same : ∀ f, Sol (ds ++ [(one, other, b)]) f ↔ Sol ds f := fun f => ⟨fun h => (sol_snoc.mp h).1, fun h => sol_snoc.mpr ⟨h, bh f h⟩⟩
      have fit5 : FitM (ds ++ [(one, other, b)]) := ⟨f0, (same f0).mpr fs⟩
      have bs : ∀ {a c o}, BoundM (ds ++ [(one, other, b)]) a c o → BoundM ds a c o := by
        intro a c o h
        cases o with
        | none => exact fun B => let ⟨f, h1, h2⟩ := h B; ⟨f, (same f).mp h1, h2⟩
        | some z => exact ⟨fun f hf => h.1 f ((same f).mpr hf), let ⟨f, h1, h2⟩ := h.2; ⟨f, (same f).mp h1, h2⟩⟩
      have gd5 : GoodDs (ds ++ [(one, other, b)]) := good_snoc sm gx gy (by omega) (by omega)
      have g15 := g14.trans g5
      refine ⟨_, rfl, _, rfl, _, rfl, v5, x, y, _, one, other, rfl, hv5, gd5, kx.keep g15.tk, ky.keep g15.tk, gx, gy, fit5, fun H6 o6 g6 b6 => ?_⟩
      have e6 : o6 = some b := BoundM.one (bs b6) bd
      subst e6
      refine ⟨_, rfl, ⟨rfl, true, ?_, ?_⟩⟩
      · simp [oV]
      rw [if_pos rfl]
      have g16 := g15.trans g6
      refine ⟨_, rfl, _, rfl, _, rfl, v5, y, x, _, other, one, rfl, hv5.keep g6.tk, gd5, ky.keep g16.tk, kx.keep g16.tk, gy, gx, fit5, fun H7 o7 g7 b7 => ?_⟩
      have g17 := g16.trans g7
      refine ⟨_, rfl, _, rfl, _, rfl, v, y, x, _, other, one, rfl, hv.keep g17.tk, sm.good, ky.keep g17.tk, kx.keep g17.tk, gy, gx, hf, fun H8 o8 g8 b8 => ?_⟩
      have e8 : o7 = o8 := BoundM.one (bs b7) b8
      subst e8
      refine ⟨?_, ?_⟩
      · cases o7 <;> rfl
      · rw [decide_eq_true rfl]
        exact q _ (g17.trans g8)
end
end Mk


set_option Elab.async false
set_option linter.all false
set_option maxRecDepth 100000
set_option maxHeartbeats 400000
/-! the law's judge of one drawn row of differences -/
namespace Mk
open PySem PySem.Spec PyProof.Rows L2
theorem nn_y {x : V} {A B : Prop} (hx : x ≠ .non) (a : A) : V.non = V.non ∧ ∃ k, V.bl (!decide (x = V.non)) = V.bl k ∧ if k = true then A else B := ⟨rfl, true, by simp [hx], by simpa using a⟩
theorem nn_n {A B : Prop} (b : B) : V.non = V.non ∧ ∃ k, V.bl (!decide (V.non = V.non)) = V.bl k ∧ if k = true then A else B := ⟨rfl, false, by simp, by simpa using b⟩
theorem bound_sum {ds : List Dif} {a b c : PK} {l r : Int} (hf : FitM ds) (h1 : BoundM ds a b (some l)) (h2 : BoundM ds b c (some r)) {o : Option Int} (h3 : BoundM ds a c o) : ∃ w, o = some w ∧ w ≤ l + r := by
  cases o with
  | none =>
    obtain ⟨f, hs, hl⟩ := h3 (l + r)
    have := h1.1 f hs
    have := h2.1 f hs
    omega
  | some w =>
    obtain ⟨f, hs, he⟩ := h3.2
    have := h1.1 f hs
    have := h2.1 f hs
    exact ⟨w, rfl, by omega⟩
theorem bound_row {ds : List Dif} {d : Dif} (hd : d ∈ ds) (hf : FitM ds) {o : Option Int} (h : BoundM ds d.1 d.2.1 o) : ∃ w, o = some w ∧ w ≤ d.2.2 := by
  cases o with
  | none =>
    obtain ⟨f, hs, hl⟩ := h d.2.2
    have := hs d hd
    omega
  | some w =>
    obtain ⟨f, hs, he⟩ := h.2
    have := hs d hd
    exact ⟨w, rfl, by omega⟩
section
variable {P : Program} {w : World} {K : PySem.W.Frag} {mg : Str → Option Value} {base : Heap}
def spSums (K : PySem.W.Frag) : Sp := fun vs H Q _ => ∃ v ds, vs = [v] ∧ DsV K H ds v ∧ SmallDs ds ∧ FitM ds ∧ ∀ H', Gx H H' → Q (.bl true) H'
theorem C__law_sums_right (T : Tops mg) (D : Def K mg "_law_sums_right" s__law_sums_right ["differences"]) (C__law_points_in : Cal P w K mg base "_law_points_in" 1 ["differences"] (spPts K)) (C_tightest : Cal P w K mg base "tightest" 6 ["differences", "one", "other"] (spTig K)) : Cal P w K mg base "_law_sums_right" 7 ["differences"] (spSums K) := by
  refine Cal.of D sc__law_sums_right (fun vs H Q E h => ?_) (fun f cdv A outer s H vs Q E hr h => ?_)
  · obtain ⟨v, ds, rfl, _⟩ := h; rfl
  · obtain ⟨v, ds, rfl, hv, sm, hf, q⟩ := h
    have hu := hu_of hr
    have h0 := hr.units0
    refine ⟨_, (pss_cons (ps_set (i := 1) sc__law_sums_right.nd rfl (Or.inl rfl) (pe_cal C__law_points_in hr (by decide) (by rfl) (pa_cons (pv 0) pa_nil)))
      (pss_cons (ps_for PassesOwn.never rfl (pi_list (pv 1)) (pg_name (i := 2) sc__law_sums_right.nd rfl (Or.inl rfl))
      (pss_one (ps_for PassesOwn.never rfl (pi_list (pv 1)) (pg_name (i := 3) sc__law_sums_right.nd rfl (Or.inl rfl))
      (pss_cons (ps_set (i := 4) sc__law_sums_right.nd rfl (Or.inl rfl) (pe_cal C_tightest hr (by decide) (by rfl) (pa_cons (pv 0) (pa_cons (pv 2) (pa_cons (pv 3) pa_nil)))))
      (pss_one (ps_for PassesOwn.never rfl (pi_list (pe_ifExp (pt_cmpR op_notN (pv 4) pe_non (nomark _)) (pv 1) (pe_lst pa_nil))) (pg_name (i := 5) sc__law_sums_right.nd rfl (Or.inl rfl))
      (pss_cons (ps_par rfl sc__law_sums_right.nd (i := 6) (j := 7) rfl rfl (by decide) rfl rfl (pa_cons (pe_cal C_tightest hr (by decide) (by rfl) (pa_cons (pv 0) (pa_cons (pv 3) (pa_cons (pv 5) pa_nil)))) (pa_cons (pe_cal C_tightest hr (by decide) (by rfl) (pa_cons (pv 0) (pa_cons (pv 2) (pa_cons (pv 5) pa_nil)))) pa_nil)) (by rfl))
      (pss_one (ps_if (PW.pt (pw_and (pt_cmpR op_notN (pv 6) pe_non (nomark _)) (pw_and1 (PW.pt (pw_or (pt_cmpR op_isN (pv 7) pe_non (nomark _)) (pw_or1 (pt_cmpR op_gt (pv 7) (pe_op op_add (pv 4) (pv 6)) (nomark _)))))))) (pss_one (ps_ret pe_bl)) pss_nil)))))))))
      (pss_one (ps_ret (pe_cmpR (op_eqE h0) (pe_lc (own := [("row", 8)]) rfl sc__law_sums_right.nd (pi_tup (pv 0)) (blkOk_by (own := [("row", 8)]) (N := N__law_sums_right) (sc := defScope s__law_sums_right) (by decide +kernel)) (fun _ _ _ _ _ => (pg_name (i := 8) sc__law_sums_right.nd rfl (Or.inl rfl))) (fun _ _ _ _ _ => (pts_one (pt_cmpR op_gt (pe_cal C_tightest hr (by decide) (by rfl) (pa_cons (pv 0) (pa_cons (pe_ix (ix_tup' (K := K) rfl) (pv 8) pe_int (fun _ _ => rfl)) (pa_cons (pe_ix (ix_tup' (K := K) rfl) (pv 8) pe_int (fun _ _ => rfl)) pa_nil)))) (pe_ix (ix_tup' (K := K) rfl) (pv 8) pe_int (fun _ _ => rfl)) (nomark _)))) (fun _ _ _ _ _ => (pv 8))) (pe_lst pa_nil) (nomark _)))))), ?_⟩
    refine ⟨_, rfl, v, ds, rfl, hv, sm.good, fun H1 F ks g1 hF plv pts => ?_⟩
    obtain ⟨xs, hx, pr⟩ := plv
    have gk : ∀ k ∈ ks, GoodP k := fun k hk => allPts_good sm.good.2 ((pts.2 k).mp hk)
    refine ⟨_, rfl, F, rfl, ⟨_, .inl (.inl hx)⟩, for_it (walk_list (xs := xs)) (fun _ σ H' => ∃ x2 x3 x4 x5 x6 x7, σ = [some v, some (.ref F), x2, x3, x4, x5, x6, x7, none] ∧ Gx H1 H') ⟨_, _, _, _, _, _, rfl, .refl⟩ (fun i σ H' _ h => ?_) (fun i x σ H2 H3 hi hP hY => ?_) (fun σ H2 hP => ?_)⟩
    · obtain ⟨_, _, _, _, _, _, _, g⟩ := h
      exact .inl (.inl (g _ _ hx))
    · obtain ⟨rfl, hxa⟩ := hY
      obtain ⟨x2, x3, x4, x5, x6, x7, rfl, g2⟩ := hP
      obtain ⟨ka, hka, kxa⟩ := pair_at pr hxa
      have ma := List.mem_of_getElem? hka
      refine ⟨_, rfl, F, rfl, ⟨_, .inl (.inl (g2 _ _ hx))⟩, for_it (walk_list (xs := xs)) (fun _ σ H' => ∃ x3 x4 x5 x6 x7, σ = [some v, some (.ref F), some x, x3, x4, x5, x6, x7, none] ∧ Gx H1 H') ⟨_, _, _, _, _, rfl, g2⟩ (fun i σ H' _ h => ?_) (fun i y σ H4 H5 hi hP hY => ?_) (fun σ H4 hP => ?_)⟩
      · obtain ⟨_, _, _, _, _, _, g⟩ := h
        exact .inl (.inl (g _ _ hx))
      · obtain ⟨rfl, hxb⟩ := hY
        obtain ⟨x3, x4, x5, x6, x7, rfl, g4⟩ := hP
        obtain ⟨kb, hkb, kxb⟩ := pair_at pr hxb
        have mb := List.mem_of_getElem? hkb
        refine ⟨_, rfl, _, rfl, _, rfl, v, _, _, ds, _, _, rfl, hv.keep (g1.trans g4).tk, sm.good, kxa.keep (g4).tk, kxb.keep (g4).tk, gk _ ma, gk _ mb, hf, fun H6 o1 g6 b1 => ?_⟩
        have g16 := g4.trans g6
        rcases o1 with _ | l
        · refine ⟨_, rfl, nn_n ⟨Nat.zero_le _, fun W hW => ⟨W, rfl, ⟨[], .inl (.inl upd_same)⟩, ?_⟩⟩⟩
          have gW := Gx.new (o := .lst []) hW
          exact for_it (walk_list (K := K) (a := W) (xs := [])) (fun _ σ H' => σ = [some v, some (.ref F), some x, some y, some (oV none), x5, x6, x7, none] ∧ Gx (upd H6 W (.lst [])) H') ⟨rfl, .refl⟩ (fun _ _ _ _ h => .inl (.inl (h.2 _ _ upd_same))) (fun i _ _ _ _ hi => absurd hi (Nat.not_lt_zero i)) (fun σ H7 ⟨e, g⟩ => ⟨_, _, _, _, _, e, g16.trans (gW.trans g)⟩)
        · refine ⟨_, rfl, nn_y (by simp [oV]) ⟨_, rfl, F, rfl, ⟨_, .inl (.inl (g16 _ _ hx))⟩, ?_⟩⟩
          refine for_it (walk_list (xs := xs)) (fun _ σ H' => ∃ x5 x6 x7, σ = [some v, some (.ref F), some x, some y, some (.int l), x5, x6, x7, none] ∧ Gx H1 H') ⟨_, _, _, rfl, g16⟩ (fun i σ H' _ h => ?_) (fun i z σ H7 H8 hi hP hY => ?_) (fun σ H7 hP => ?_)
          · obtain ⟨_, _, _, _, g⟩ := h
            exact .inl (.inl (g _ _ hx))
          · obtain ⟨rfl, hxc⟩ := hY
            obtain ⟨x5, x6, x7, rfl, g7⟩ := hP
            obtain ⟨kc, hkc, kxc⟩ := pair_at pr hxc
            have mc := List.mem_of_getElem? hkc
            refine ⟨_, rfl, _, rfl, _, rfl, v, _, _, ds, _, _, rfl, hv.keep (g1.trans g7).tk, sm.good, kxb.keep (g7).tk, kxc.keep (g7).tk, gk _ mb, gk _ mc, hf, fun H9 o2 g9 b2 => ?_⟩
            refine ⟨_, rfl, _, rfl, _, rfl, v, _, _, ds, _, _, rfl, hv.keep (g1.trans (g7.trans g9)).tk, sm.good, kxa.keep ((g7.trans g9)).tk, kxc.keep ((g7.trans g9)).tk, gk _ ma, gk _ mc, hf, fun H10 o3 g10 b3 => ?_⟩
            have gg := g7.trans (g9.trans g10)
            refine ⟨_, _, rfl, ?_⟩
            rcases o2 with _ | r
            · refine ⟨_, rfl, nn_n ?_⟩
              exact ⟨_, _, _, rfl, gg⟩
            · obtain ⟨w', rfl, hle⟩ := bound_sum hf b1 b2 b3
              refine ⟨_, rfl, nn_y (by simp [oV]) ?_⟩
              refine ⟨_, rfl, isn_n (by simp [oV]) ?_⟩
              refine ⟨_, rfl, _, rfl, _, rfl, l, r, rfl, rfl, w', l + r, rfl, rfl, _, rfl, ?_⟩
              rw [decide_eq_false (by omega)]
              exact ⟨_, _, _, rfl, gg⟩
          · obtain ⟨x5, x6, x7, rfl, g7⟩ := hP
            exact ⟨_, _, _, _, _, rfl, g7⟩
      · obtain ⟨x3, x4, x5, x6, x7, rfl, g4⟩ := hP
        exact ⟨_, _, _, _, _, _, rfl, g4⟩
    · obtain ⟨x2, x3, x4, x5, x6, x7, rfl, g2⟩ := hP
      obtain ⟨t, ts, rfl, ht, prd⟩ := (hv.keep g1.tk).keep g2.tk
      have lt : ts.length ≤ 6 := by rw [← Paired.length prd]; exact sm.1
      refine ⟨_, rfl, t, rfl, ⟨_, ht⟩, fun D hD => lc_it (walk_tup (xs := ts)) (PvG H2 D fun _ ys _ => ys = []) (PvG.ini hD rfl) (fun _ _ _ h => h.1.seqT ht) (fun i x H3 H4 hi hP hY => ?_) (fun H3 hP => ?_)⟩
      · obtain ⟨rfl, hxi⟩ := hY
        obtain ⟨g3, ys, e, am⟩ := hP
        obtain ⟨d, hd, dx⟩ := pair_at prd hxi
        have dm := List.mem_of_getElem? hd
        have dx := dx.keep g3.tk
        refine ⟨rfl, ?_⟩
        refine ⟨_, rfl, (row_ok (i := 8) rfl dx).1 _ fun y1 k1 => (row_ok (i := 8) rfl dx).2.1 _ fun y2 k2 => ?_⟩
        have g13 := g1.trans (g2.trans g3)
        refine ⟨_, y1, y2, ds, d.1, d.2.1, rfl, hv.keep g13.tk, sm.good, k1, k2, (sm.2 d dm).1, (sm.2 d dm).2.1, hf, fun H5 o g5 bd => ?_⟩
        obtain ⟨w', rfl, hle⟩ := bound_row dm hf bd
        refine (row_ok (i := 8) rfl (dx.keep g5.tk)).2.2 _ ⟨w', d.2.2, rfl, rfl, _, rfl, ?_⟩
        rw [decide_eq_false (by omega)]
        exact ⟨g3.trans g5, ys, g5 _ _ e, am⟩
      · obtain ⟨g3, ys, e, am⟩ := hP
        subst am
        refine ⟨Nat.zero_le _, fun E2 hE => ⟨D, E2, [], rfl, rfl, .inl (.inl ((Gx.new hE) _ _ e)), .inl (.inl upd_same), ?_⟩⟩
        exact q _ (g1.trans (g2.trans (g3.trans (.new hE))))
end
end Mk


set_option Elab.async false
set_option linter.all false
set_option maxRecDepth 100000
set_option maxHeartbeats 400000
/-! the plain law of the tries -/
namespace Mk
open PySem PySem.Spec PyProof.Rows L2
theorem look_app {N : Num} {k x : PK} {n : Int} : lookA (N ++ [(k, n)]) x = (lookA N x).or (if k = x then some n else none) := by rw [lookA_app, lookA_cons, lookA_nil]
theorem tri_vals : ∀ (l : List PK) (Ns : List Num), (∀ N ∈ Ns, (∀ k x, lookA N k = some x → -6 ≤ x ∧ x ≤ 6) ∧ lookA N zeroP = some 0) → ∀ N ∈ triM Ns l, (∀ k x, lookA N k = some x → -6 ≤ x ∧ x ≤ 6) ∧ lookA N zeroP = some 0
  | [], Ns, h, N, hN => h N hN
  | k :: l, Ns, h, N, hN => by
    rw [triM] at hN
    refine tri_vals l _ (fun N1 h1 => ?_) N hN
    by_cases c : k = zeroP
    · rw [if_pos c] at h1; exact h N1 h1
    · rw [if_neg c] at h1
      obtain ⟨N0, h0, h2⟩ := List.mem_flatMap.mp h1
      obtain ⟨j, hj, rfl⟩ := List.mem_map.mp h2
      obtain ⟨v0, z0⟩ := h N0 h0
      have j13 := List.mem_range.mp hj
      refine ⟨fun a x hx => ?_, by rw [look_app, z0]; rfl⟩
      rw [look_app] at hx
      rcases e : lookA N0 a with _ | y
      · rw [e] at hx
        by_cases q : k = a
        · rw [if_pos q] at hx
          cases hx
          omega
        · rw [if_neg q] at hx; cases hx
      · rw [e] at hx
        cases hx
        exact v0 a _ e
theorem tried_vals {l : List PK} {N : Num} (h : N ∈ triedM l) : (∀ k x, lookA N k = some x → -6 ≤ x ∧ x ≤ 6) ∧ lookA N zeroP = some 0 := by
  refine tri_vals l _ (fun N h => ?_) N h
  rw [List.mem_singleton] at h
  subst h
  refine ⟨fun k x hx => ?_, by rw [lookA_cons, if_pos rfl]⟩
  rw [lookA_cons, lookA_nil] at hx
  by_cases c : zeroP = k
  · rw [if_pos c] at hx; cases hx; omega
  · rw [if_neg c] at hx; cases hx
theorem tri_all (g : PK → Int) : ∀ (l : List PK) (Ns : List Num) (N0 : Num), N0 ∈ Ns → l.Nodup → (∀ k ∈ l, k ≠ zeroP → k ∉ N0.map (·.1)) → (∀ k ∈ l, -6 ≤ g k ∧ g k ≤ 6) →
    ∃ N ∈ triM Ns l, (∀ k x, lookA N0 k = some x → lookA N k = some x) ∧ ∀ k ∈ l, k ≠ zeroP → lookA N k = some (g k)
  | [], Ns, N0, h0, _, _, _ => ⟨N0, h0, fun _ _ h => h, fun _ h => by cases h⟩
  | k :: l, Ns, N0, h0, nd, hk, hg => by
    obtain ⟨nd1, nd2⟩ := List.nodup_cons.mp nd
    rw [triM]
    by_cases c : k = zeroP
    · rw [if_pos c]
      obtain ⟨N, hN, a, b⟩ := tri_all g l Ns N0 h0 nd2 (fun x hx => hk x (List.mem_cons_of_mem _ hx)) fun x hx => hg x (List.mem_cons_of_mem _ hx)
      refine ⟨N, hN, a, fun x hx hz => ?_⟩
      rcases List.mem_cons.mp hx with rfl | hx
      · exact absurd c hz
      · exact b x hx hz
    · rw [if_neg c]
      obtain ⟨g1, g2⟩ := hg k List.mem_cons_self
      have h1 : N0 ++ [(k, g k)] ∈ Ns.flatMap (widM k) := by
        refine List.mem_flatMap.mpr ⟨N0, h0, List.mem_map.mpr ⟨(g k + 6).toNat, List.mem_range.mpr (by omega), ?_⟩⟩
        have : -6 + (((g k + 6).toNat : Nat) : Int) = g k := by omega
        rw [this]
      obtain ⟨N, hN, a, b⟩ := tri_all g l _ _ h1 nd2 (fun x hx hz => by
        rw [List.map_append, List.mem_append, not_or]
        refine ⟨hk x (List.mem_cons_of_mem _ hx) hz, fun z => ?_⟩
        rw [List.map_singleton, List.mem_singleton] at z
        have z : x = k := z
        exact nd1 (by rw [← z]; exact hx)) fun x hx => hg x (List.mem_cons_of_mem _ hx)
      refine ⟨N, hN, fun x y hx => a x y (by rw [look_app, hx]; rfl), fun x hx hz => ?_⟩
      rcases List.mem_cons.mp hx with rfl | hx
      · exact a _ _ (by rw [look_app, lookA_none.mpr (hk _ List.mem_cons_self hz), if_pos rfl]; rfl)
      · exact b x hx hz
theorem tried_all {l : List PK} (nd : l.Nodup) {g : PK → Int} (g0 : g zeroP = 0) (hg : ∀ k ∈ l, -6 ≤ g k ∧ g k ≤ 6) : ∃ N ∈ triedM l, ∀ k ∈ l, getM N k = g k := by
  obtain ⟨N, hN, a, b⟩ := tri_all g l [[(zeroP, 0)]] _ (List.mem_singleton.mpr rfl) nd (fun k _ hz h => hz (by simpa using h)) hg
  refine ⟨N, hN, fun k hk => ?_⟩
  by_cases c : k = zeroP
  · rw [c, g0, getM, a zeroP 0 (by rw [lookA_cons, if_pos rfl])]; rfl
  · rw [getM, b k hk c]; rfl
theorem true_iff {ds : List Dif} {N : Num} : trueM ds N = true ↔ Sol ds (getM N) := by
  unfold trueM
  rw [List.all_eq_true]
  exact ⟨fun h d hd => of_decide_eq_true (h d hd), fun h d hd => decide_eq_true (h d hd)⟩
def goodM (ds : List Dif) (ks : List PK) : List Num := (triedM ks).filter (trueM ds)
theorem good_sol {ds : List Dif} {ks : List PK} {N : Num} (h : N ∈ goodM ds ks) : Sol ds (getM N) := true_iff.mp (List.mem_filter.mp h).2
/-- a solution of small numbers is among the tries -/
theorem good_of {ds : List Dif} {ks : List PK} (hks : PtsOf ds ks) {g : PK → Int} (hs : Sol ds g) (g0 : g zeroP = 0) (hg : ∀ k ∈ ks, -6 ≤ g k ∧ g k ≤ 6) : ∃ N ∈ goodM ds ks, ∀ k ∈ ks, getM N k = g k := by
  obtain ⟨N, hN, e⟩ := tried_all hks.1 g0 hg
  refine ⟨N, List.mem_filter.mpr ⟨hN, true_iff.mpr fun d hd => ?_⟩, e⟩
  rw [e _ (pts_l hks hd), e _ (pts_r hks hd)]
  exact hs d hd
theorem good_iff {ds : List Dif} {ks : List PK} (hks : PtsOf ds ks) {p q : PK} (hp : ∀ k ∈ allPts ds, k = zeroP ∨ k = p ∨ k = q) (hw : ∀ d ∈ ds, -2 ≤ d.2.2) : goodM ds ks ≠ [] ↔ FitM ds := by
  constructor
  · intro h
    obtain ⟨N, hN⟩ := List.exists_mem_of_ne_nil _ h
    exact ⟨_, good_sol hN⟩
  · intro h
    obtain ⟨g, hs, g0, gb⟩ := near_sol hp hw h
    obtain ⟨N, hN, _⟩ := good_of hks hs g0 fun k _ => gb k
    exact List.ne_nil_of_mem hN
theorem three {a b c : PK} {l : List PK} (ha : a ∈ l) (hb : b ∈ l) (hc : c ∈ l) (ab : a ≠ b) (ac : a ≠ c) (bc : b ≠ c) : 3 ≤ l.length := by
  have := nodup_len (l := [a, b, c]) (r := l) (by simp [ab, ac, bc]) (by simp [ha, hb, hc])
  exact this
/-- two points at most: the tightest small number is met -/
theorem near_met {ds : List Dif} {ks : List PK} (hks : PtsOf ds ks) (h3 : ks.length < 3) {one other : PK} (h1 : one ∈ ks) (h2 : other ∈ ks) {b : Int} (bd : BoundM ds one other (some b)) (b1 : -6 ≤ b) (b2 : b ≤ 6) (hne : goodM ds ks ≠ []) :
    ∃ N ∈ goodM ds ks, getM N one - getM N other = b := by
  obtain ⟨f, hs, fe⟩ := bd.2
  have hz : zeroP ∈ ks := (hks.2 _).mpr List.mem_cons_self
  by_cases e : one = other
  · obtain ⟨N, hN⟩ := List.exists_mem_of_ne_nil _ hne
    refine ⟨N, hN, ?_⟩
    subst e
    omega
  · have hk : ∀ k ∈ ks, k = one ∨ k = other := fun k hk => by
      apply Classical.byContradiction
      intro z
      rw [not_or] at z
      have := three hk h1 h2 z.1 z.2 e
      omega
    obtain ⟨N, hN, eN⟩ := good_of hks (g := fun k => f k - f zeroP) (fun d hd => by have := hs d hd; dsimp only; omega) (Int.sub_self _) fun k hkk => by
      rcases hk k hkk with rfl | rfl <;> rcases hk zeroP hz with z | z <;> rw [z] <;> omega
    refine ⟨N, hN, ?_⟩
    rw [eN _ h1, eN _ h2]
    omega
end Mk


set_option Elab.async false
set_option linter.all false
set_option maxRecDepth 100000
set_option maxHeartbeats 400000
/-! the law's judge of one drawn row of differences -/
namespace Mk
open PySem PySem.Spec PyProof.Rows L2
theorem cut_mem {xs : List V} {lo hi : Option Int} {x : V} (h : x ∈ cutV xs lo hi) : x ∈ xs := List.mem_of_mem_drop (List.mem_of_mem_take h)
theorem pair_mem {α β : Type} {R : α → β → Prop} {as : List α} {bs : List β} (h : Paired R as bs) {b : β} (hb : b ∈ bs) : ∃ a ∈ as, R a b := by
  obtain ⟨i, hi⟩ := List.mem_iff_getElem?.mp hb
  obtain ⟨a, ha, r⟩ := pair_at h hi
  exact ⟨a, List.mem_of_getElem? ha, r⟩
theorem isEmpty_iff' {α : Type} {l : List α} : l.isEmpty = true ↔ l = [] := List.isEmpty_iff
section
variable {P : Program} {w : World} {K : PySem.W.Frag} {mg : Str → Option Value} {base : Heap}
/-- the points drawn: zero and two more -/
def FewDs (ds : List Dif) : Prop := SmallDs ds ∧ ∃ p q, ∀ k ∈ allPts ds, k = zeroP ∨ k = p ∨ k = q
def spRight (K : PySem.W.Frag) : Sp := fun vs H Q _ => ∃ v1 v2 v ds, vs = [v1, v2, v] ∧ DsV K H ds v ∧ FewDs ds ∧ ∀ H', Gx H H' → Q (.bl true) H'
theorem C__law_right (T : Tops mg) (D : Def K mg "_law_right" s__law_right ["keg", "points", "differences"]) (C__law_points_in : Cal P w K mg base "_law_points_in" 1 ["differences"] (spPts K)) (C__law_tried : Cal P w K mg base "_law_tried" 1 ["points", "most"] (spTri P w K)) (C__law_are_true : Cal P w K mg base "_law_are_true" 1 ["differences", "numbers"] (spAre P w K)) (C__law_is_near : Cal P w K mg base "_law_is_near" 1 ["names", "most", "told"] (spNear K)) (C__law_bound_right : Cal P w K mg base "_law_bound_right" 7 ["differences", "one", "other", "told"] (spBri K))
    (C_fitting : Cal P w K mg base "fitting" 6 ["differences"] (spFit P w K)) (C_ring : Cal P w K mg base "ring" 6 ["differences"] (spRof K)) (C_tightest : Cal P w K mg base "tightest" 6 ["differences", "one", "other"] (spTig K)) (C_is_fitting : Cal P w K mg base "is_fitting" 6 ["differences", "value"] (spIsf P w K)) : Cal P w K mg base "_law_right" 8 ["keg", "points", "differences"] (spRight K) := by
  refine Cal.of D sc__law_right (fun vs H Q E h => ?_) (fun f cdv A outer s H vs Q E hr h => ?_)
  · obtain ⟨v1, v2, v, ds, rfl, _⟩ := h; rfl
  · obtain ⟨v1, v2, v, ds, rfl, hv, ⟨sm, p, q, hpq⟩, hq⟩ := h
    have hu := hu_of hr
    have h0 := hr.units0
    have h64 := hr.units
    refine ⟨_, (pss_cons (ps_par rfl sc__law_right.nd (i := 3) (j := 4) rfl rfl (by decide) rfl rfl (pa_cons (pe_cal C__law_points_in hr (by decide) (by rfl) (pa_cons (pv 2) pa_nil)) (pa_cons pe_int pa_nil)) (by rfl))
      (pss_cons (ps_setLc (i := 5) (own := [("one", 6)]) rfl sc__law_right.nd rfl rfl (sw_true rfl rfl rfl (by decide +kernel)) (pi_list (pe_cal C__law_tried hr (by decide) (by rfl) (pa_cons (pv 3) (pa_cons (pv 4) pa_nil)))) (blkOk_by (own := [("one", 6)]) (N := N__law_right) (sc := defScope s__law_right) (by decide +kernel)) (fun _ _ _ _ _ => (pg_name (i := 6) sc__law_right.nd rfl (Or.inl rfl))) (fun _ _ _ _ _ => (pts_one (pt_val (pe_cal C__law_are_true hr (by decide) (by rfl) (pa_cons (pv 2) (pa_cons (pv 6) pa_nil)))))) (fun _ _ _ _ _ => (pv 6)))
      (pss_cons (ps_if (PW.pt (pw_or (pt_cmpR op_ne (pe_cmpR (op_neE h0) (pv 5) (pe_lst pa_nil) (nomark _)) (pe_cmpR op_notN (pe_cal C_fitting hr (by decide) (by rfl) (pa_cons (pv 2) pa_nil)) pe_non (nomark _)) (nomark _)) (pw_or1 (pt_cmpR op_ne (pe_cmpR (op_eqE h0) (pv 5) (pe_lst pa_nil) (nomark _)) (pe_cmpR op_notN (pe_cal C_ring hr (by decide) (by rfl) (pa_cons (pv 2) pa_nil)) pe_non (nomark _)) (nomark _))))) (pss_one (ps_ret pe_bl)) pss_nil)
      (pss_cons (ps_for PassesOwn.never rfl (pi_list (pe_op op_cat (pe_slice sl_list (pv 5) po_none (po_some pe_int)) (pe_slice sl_list (pv 5) (po_some (pe_un un_neg pe_int)) po_none))) (pg_name (i := 7) sc__law_right.nd rfl (Or.inl rfl))
      (pss_one (ps_if (pt_not (pt_val (pe_cal C_is_fitting hr (by decide) (by rfl) (pa_cons (pv 2) (pa_cons (pv 7) pa_nil))))) (pss_one (ps_ret pe_bl)) pss_nil)))
      (pss_cons (ps_if (pt_cmpR (op_eqE h0) (pv 5) (pe_lst pa_nil) (nomark _)) (pss_one (ps_ret pe_bl)) pss_nil)
      (pss_cons (ps_for PassesOwn.never rfl (pi_list (pv 3)) (pg_name (i := 6) sc__law_right.nd rfl (Or.inr rfl))
      (pss_one (ps_for PassesOwn.never rfl (pi_list (pv 3)) (pg_name (i := 8) sc__law_right.nd rfl (Or.inr rfl))
      (pss_cons (ps_set (i := 9) sc__law_right.nd rfl (Or.inl rfl) (pe_cal C_tightest hr (by decide) (by rfl) (pa_cons (pv 2) (pa_cons (pv 6) (pa_cons (pv 8) pa_nil)))))
      (pss_cons (ps_set (i := 10) sc__law_right.nd rfl (Or.inl rfl) (pe_callB (cr_max rfl) (by rfl) T.b_max (by decide +kernel) (pa_cons (pe_lc (own := [("numbers", 7)]) rfl sc__law_right.nd (pi_list (pv 5)) (blkOk_by (own := [("numbers", 7)]) (N := N__law_right) (sc := defScope s__law_right) (by decide +kernel)) (fun _ _ _ _ _ => (pg_name (i := 7) sc__law_right.nd rfl (Or.inl rfl))) (fun _ _ _ _ _ => pts_nil) (fun _ _ _ _ _ => (pe_op op_sub (pe_ix (ix_dic' hu (P := P) (w := w) (K := K) rfl rfl rfl) (pv 7) (pv 6) (fun _ _ => rfl)) (pe_ix (ix_dic' hu (P := P) (w := w) (K := K) rfl rfl rfl) (pv 7) (pv 8) (fun _ _ => rfl))))) pa_nil)))
      (pss_cons (ps_if (PW.pt (pw_and (pt_cmpR op_notN (pv 9) pe_non (nomark _)) (pw_and1 (pt_cmpR op_lt (pv 9) (pv 10) (nomark _))))) (pss_one (ps_ret pe_bl)) pss_nil)
      (pss_cons (ps_if (PW.pt (pw_and (pt_cmpR op_notN (pv 9) pe_non (nomark _)) (pw_and (pt_cmpR op_ne (pv 9) (pv 10) (nomark _)) (pw_and1 (pt_val (pe_cal C__law_is_near hr (by decide) (by rfl) (pa_cons (pv 3) (pa_cons (pv 4) (pa_cons (pv 9) pa_nil))))))))) (pss_one (ps_ret pe_bl)) pss_nil)
      (pss_one (ps_if (pt_not (pt_val (pe_cal C__law_bound_right hr (by decide) (by rfl) (pa_cons (pv 2) (pa_cons (pv 6) (pa_cons (pv 8) (pa_cons (pv 9) pa_nil))))))) (pss_one (ps_ret pe_bl)) pss_nil)))))))))
      (pss_one (ps_ret pe_bl)))))))), ?_⟩
    -- names, most
    refine ⟨_, rfl, v, ds, rfl, hv, sm.good, fun H1 F ks g1 hF plv pts => ⟨_, _, rfl, ?_⟩⟩
    obtain ⟨xs, hx, pr⟩ := id plv
    have gk : ∀ k ∈ ks, GoodP k := fun k hk => allPts_good sm.good.2 ((pts.2 k).mp hk)
    have l3 : ks.length ≤ 3 := nodup_len pts.1 (r := [zeroP, p, q]) fun k hk => by
      rcases hpq k ((pts.2 k).mp hk) with h | h | h <;> simp [h]
    have hw2 : ∀ d ∈ ds, -2 ≤ d.2.2 := fun d hd => (sm.2 d hd).2.2.1
    have giff := good_iff pts hpq hw2
    -- good
    refine ⟨_, rfl, _, rfl, F, ks, rfl, plv, pts.1, gk, l3, fun H2 B g2 hB ⟨bs, hbs, prb⟩ => ?_⟩
    have lT : bs.length ≤ 2197 := by rw [← Paired.length prb]; exact tried_len l3
    have g12 := g1.trans g2
    refine ⟨B, rfl, ⟨_, .inl (.inl hbs)⟩, fun G hG => lc_it (walk_list (xs := bs)) (PvG H2 G fun i ys H' => Paired (fun N x => ∃ d, x = V.ref d ∧ DicW P w K H' d (IM N)) (((triedM ks).take i).filter (trueM ds)) ys) (PvG.ini hG (by rw [List.take_zero]; exact .nil)) (fun _ _ _ h => h.1.seqL (.inl (.inl hbs))) (fun i x H3 H4 hi hP hY => ?_) (fun H3 hP => ?_)⟩
    · obtain ⟨rfl, hxi⟩ := hY
      obtain ⟨g3, ys, e, am⟩ := hP
      obtain ⟨N, hN, d, rfl, hd⟩ := pair_at prb hxi
      have Nm := List.mem_of_getElem? hN
      refine ⟨rfl, ?_⟩
      refine ⟨_, rfl, _, rfl, v, d, ds, N, rfl, hv.keep (g12.trans g3).tk, sm.good.1, g3.dicW hd, fun k hk => ?_, fun H5 g5 => ⟨_, rfl, ?_⟩⟩
      · rw [tried_keys Nm]
        by_cases c : k = zeroP
        · rw [c]; exact List.mem_cons_self
        · exact List.mem_cons_of_mem _ (List.mem_filter.mpr ⟨(pts.2 k).mpr hk, by simp [c]⟩)
      · have e5 := g5 _ _ e
        have lift : Paired (fun N x => ∃ d, x = V.ref d ∧ DicW P w K H5 d (IM N)) (((triedM ks).take i).filter (trueM ds)) ys := Paired.mapP am fun _ _ ⟨d, e, z⟩ => ⟨d, e, g5.dicW z⟩
        by_cases c : trueM ds N = true
        · rw [c]
          refine ⟨_, rfl, PvG.put (g3.trans g5) hG e5 (line_lt (m := 2197) ?_) ?_⟩
          · rw [← Paired.length am]
            exact Nat.le_trans (List.length_filter_le _ _) (take_len (tried_len l3))
          · rw [take_s hN, List.filter_append, List.filter_cons_of_pos c]
            have tm : Tk K H5 (upd H5 G (.lst (ys ++ [.ref d]))) := Tk.mut (by rw [e5]; exact True.intro)
            have dd := g5.dicW (g3.dicW hd)
            exact pair_snoc (Paired.mapP lift fun _ _ ⟨d', e', z⟩ => ⟨d', e', z.keep (upd_ne (dic_ne z e5)) tm⟩) ⟨d, rfl, dd.keep (upd_ne (dic_ne dd e5)) tm⟩
        · rw [show trueM ds N = false from Bool.eq_false_iff.mpr c]
          refine ⟨g3.trans g5, ys, e5, ?_⟩
          dsimp only
          rw [take_s hN, List.filter_append, List.filter_cons_of_neg c]
          simpa using lift
    obtain ⟨g3, gs, hgs, prg⟩ := hP
    rw [← Paired.length prb, List.take_length] at prg
    have prg : Paired (fun N x => ∃ d, x = V.ref d ∧ DicW P w K H3 d (IM N)) (goodM ds ks) gs := prg
    have g13 := g12.trans g3
    have gemp : gs.isEmpty = true ↔ ¬ FitM ds := by
      rw [← giff, isEmpty_iff', Classical.not_not]
      have := Paired.length prg
      exact ⟨fun h => List.length_eq_zero_iff.mp (by rw [this, h]; rfl), fun h => List.length_eq_zero_iff.mp (by rw [← this, h]; rfl)⟩
    have gdic : ∀ {x}, x ∈ gs → ∃ N ∈ goodM ds ks, ∃ d, x = V.ref d ∧ DicW P w K H3 d (IM N) := fun hx => pair_mem prg hx
    have gkeys : ∀ {N}, N ∈ goodM ds ks → (N.map (·.1)).Nodup ∧ (∀ k, k ∈ N.map (·.1) ↔ k ∈ allPts ds) ∧ (∀ k ∈ N.map (·.1), lookA N k = some (getM N k)) ∧ (∀ k ∈ N.map (·.1), -6 ≤ getM N k ∧ getM N k ≤ 6) ∧ getM N zeroP = 0 := by
      intro N hN
      have hT := (List.mem_filter.mp hN).1
      have ek := tried_keys hT
      obtain ⟨vals, z0⟩ := tried_vals hT
      have lk : ∀ k ∈ N.map (·.1), lookA N k = some (getM N k) := fun k hk => by
        obtain ⟨b, hb⟩ := mem_look hk
        rw [getM, hb]; rfl
      refine ⟨?_, fun k => ?_, lk, fun k hk => vals k _ (lk k hk), by rw [getM, z0]; rfl⟩
      · rw [ek, List.nodup_cons]
        exact ⟨fun z => by have := (List.mem_filter.mp z).2; simp at this, pts.1.filter _⟩
      · rw [ek, ← pts.2]
        constructor
        · intro h
          rcases List.mem_cons.mp h with h | h
          · rw [h]; exact (pts.2 _).mpr List.mem_cons_self
          · exact (List.mem_filter.mp h).1
        · intro h
          by_cases c : k = zeroP
          · rw [c]; exact List.mem_cons_self
          · exact List.mem_cons_of_mem _ (List.mem_filter.mpr ⟨h, by simp [c]⟩)
    -- good != [], good == []
    have step1 : ∀ {H4 : Hp} {Qb : Bool → Hp → Prop}, Gx H3 H4 → (∀ H6, Gx H4 H6 → Qb false H6) → (tTest (tOp rNe (tOp (rNeE K) (tVar 5) (tLst tNil)) (tOp (fun x y H Q => y = V.non ∧ Q (V.bl !decide (x = V.non)) H) (tCall (spFit P w K) [] E0 (tCons (tVar 2) tNil)) (tC V.non))))
        [some v1, some v2, some v, some (.ref F), some (.int 6), some (.ref G), none, none, none, none, none] H4 Qb := by
      intro H4 Qb g4 hb
      refine ⟨_, rfl, Nat.zero_le _, fun n1 hn1 => ⟨G, n1, gs, rfl, rfl, (g4.trans (Gx.new hn1)).seqL (.inl (.inl hgs)), .inl (.inl upd_same), ?_⟩⟩
      have g5 := Gx.new (o := .lst []) hn1
      generalize upd H4 n1 (.lst []) = H5 at *
      refine ⟨_, rfl, v, ds, rfl, hv.keep (g13.trans (g4.trans g5)).tk, sm.good, fun hf H6 g6 => ⟨rfl, rfl, ?_⟩, fun hf H6 pp kks gg g6 hp5 pts5 hd5 hs5 hz5 => ⟨rfl, rfl, ?_⟩⟩
      · rw [gemp.mpr hf]
        exact ⟨false, by simp, hb _ (g5.trans g6)⟩
      · rw [show gs.isEmpty = false from Bool.eq_false_iff.mpr fun z => gemp.mp z hf]
        exact ⟨false, by simp, hb _ (g5.trans g6)⟩
    have step2 : ∀ {H5 : Hp} {Qb : Bool → Hp → Prop}, Gx H3 H5 → (∀ H6, Gx H5 H6 → Qb false H6) → (tTest (tOp rNe (tOp (rEqE K) (tVar 5) (tLst tNil)) (tOp (fun x y H Q => y = V.non ∧ Q (V.bl !decide (x = V.non)) H) (tCall (spRof K) [] E0 (tCons (tVar 2) tNil)) (tC V.non))))
        [some v1, some v2, some v, some (.ref F), some (.int 6), some (.ref G), none, none, none, none, none] H5 Qb := by
      intro H5 Qb g5 hb
      refine ⟨_, rfl, Nat.zero_le _, fun n2 hn2 => ⟨G, n2, gs, rfl, rfl, (g5.trans (Gx.new hn2)).seqL (.inl (.inl hgs)), .inl (.inl upd_same), ?_⟩⟩
      have g6 := Gx.new (o := .lst []) hn2
      generalize upd H5 n2 (.lst []) = H6 at *
      refine ⟨_, rfl, v, ds, rfl, hv.keep (g13.trans (g5.trans g6)).tk, sm.good, fun hf H7 g7 => ⟨rfl, rfl, ?_⟩, fun hf H7 pp rs g7 hp7 hs7 => ⟨rfl, rfl, ?_⟩⟩
      · rw [show gs.isEmpty = false from Bool.eq_false_iff.mpr fun z => gemp.mp z hf]
        exact ⟨false, by simp, hb _ (g6.trans g7)⟩
      · rw [gemp.mpr hf]
        exact ⟨false, by simp, hb _ (g6.trans g7)⟩
    refine step1 .refl fun H4 g4 => ?_
    dsimp only
    rw [if_neg Bool.false_ne_true]
    refine step2 g4 fun H5 g5' => ?_
    rw [if_neg Bool.false_ne_true]
    have g5 := g4.trans g5'
    have g15 := g13.trans g5
    have lgs : gs.length ≤ 2197 := by
      rw [← Paired.length prg]
      exact Nat.le_trans (List.length_filter_le _ _) (tried_len l3)
    -- the first and the last of good
    refine ⟨_, rfl, 3, rfl, G, gs, rfl, .inl (.inl (g5 _ _ hgs)), fun c1 hc1 => ?_⟩
    have g6 := Gx.new (o := .lst (cutV gs none (some 3))) hc1
    have e6 : (upd H5 c1 (.lst (cutV gs none (some 3)))) c1 = some (.lst (cutV gs none (some 3))) := upd_same
    generalize upd H5 c1 (.lst (cutV gs none (some 3))) = H6 at *
    refine ⟨_, rfl, 3, rfl, _, rfl, G, gs, rfl, .inl (.inl (g6 _ _ (g5 _ _ hgs))), fun c2 hc2 => ?_⟩
    have g7 := Gx.new (o := .lst (cutV gs (some (-3)) none)) hc2
    have e7 : (upd H6 c2 (.lst (cutV gs (some (-3)) none))) c2 = some (.lst (cutV gs (some (-3)) none)) := upd_same
    generalize upd H6 c2 (.lst (cutV gs (some (-3)) none)) = H7 at *
    refine ⟨c1, c2, _, _, rfl, rfl, g7 _ _ e6, e7, line_le (m := 5000) (by have := cutV_length gs none (some 3); have := cutV_length gs (some (-3)) none; omega), fun c3 hc3 => ?_⟩
    have g8 := Gx.new (o := .lst (cutV gs none (some 3) ++ cutV gs (some (-3)) none)) hc3
    have e8 : (upd H7 c3 (.lst (cutV gs none (some 3) ++ cutV gs (some (-3)) none))) c3 = some (.lst (cutV gs none (some 3) ++ cutV gs (some (-3)) none)) := upd_same
    generalize upd H7 c3 (.lst (cutV gs none (some 3) ++ cutV gs (some (-3)) none)) = H8 at *
    have g38 := g5.trans (g6.trans (g7.trans g8))
    have cutm : ∀ x ∈ cutV gs none (some 3) ++ cutV gs (some (-3)) none, x ∈ gs := fun x hx => by
      rcases List.mem_append.mp hx with h | h
      · exact cut_mem h
      · exact cut_mem h
    generalize cutV gs none (some 3) ++ cutV gs (some (-3)) none = ys at *
    refine ⟨c3, rfl, ⟨_, .inl (.inl e8)⟩, for_it (walk_list (xs := ys)) (fun _ σ H' => ∃ x7, σ = [some v1, some v2, some v, some (.ref F), some (.int 6), some (.ref G), none, x7, none, none, none] ∧ Gx H8 H') ⟨_, rfl, .refl⟩ (fun i σ H' _ h => ?_) (fun i x σ H9 H10 hi hP hY => ?_) (fun σ H9 hP => ?_)⟩
    · obtain ⟨_, _, g⟩ := h
      exact .inl (.inl (g _ _ e8))
    · obtain ⟨rfl, hxi⟩ := hY
      obtain ⟨x7, rfl, g9⟩ := hP
      obtain ⟨N, hN, d, rfl, hd⟩ := gdic (cutm x (List.mem_of_getElem? hxi))
      obtain ⟨nd, kk, lk, vb, z0⟩ := gkeys hN
      have g39 := g38.trans g9
      refine ⟨_, rfl, _, rfl, v, d, ds, N, getM N, rfl, hv.keep (g13.trans g39).tk, sm.good, (g39.dicW hd).r, nd, kk, lk, fun k hk => by have := vb k hk; omega, z0, good_sol hN, fun H11 g11 => ⟨_, rfl, ?_⟩⟩
      exact ⟨_, rfl, g9.trans g11⟩
    obtain ⟨x7, rfl, g9⟩ := hP
    have g39 := g38.trans g9
    refine ⟨_, rfl, Nat.zero_le _, fun n2 hn2 => ⟨G, n2, gs, rfl, rfl, (g39.trans (Gx.new hn2)).seqL (.inl (.inl hgs)), .inl (.inl upd_same), ?_⟩⟩
    have g10 := Gx.new (o := .lst []) hn2
    generalize upd H9 n2 (.lst []) = H10 at *
    have g310 := g39.trans g10
    by_cases hf : FitM ds
    · rw [show gs.isEmpty = false from Bool.eq_false_iff.mpr fun z => gemp.mp z hf]
      refine ⟨false, rfl, ?_⟩
      have g1a := g13.trans g310
      have gF : ∀ {H'}, Gx H10 H' → H' F = some (.lst xs) := fun g => (g2.trans (g3.trans (g310.trans g))) _ _ hx
      have gG : ∀ {H'}, Gx H10 H' → H' G = some (.lst gs) := fun g => (g310.trans g) _ _ hgs
      have kxF : ∀ {H' k x}, Gx H10 H' → KyV K H1 k x → KyV K H' k x := fun g h => h.keep (g2.trans (g3.trans (g310.trans g))).tk
      have gne : goodM ds ks ≠ [] := giff.mpr hf
      refine ⟨_, rfl, F, rfl, ⟨_, .inl (.inl (gF .refl))⟩, for_it (walk_list (xs := xs)) (fun _ σ H' => ∃ x6 x7 x8 x9 x10, σ = [some v1, some v2, some v, some (.ref F), some (.int 6), some (.ref G), x6, x7, x8, x9, x10] ∧ Gx H10 H') ⟨_, _, _, _, _, rfl, .refl⟩ (fun i σ H' _ h => ?_) (fun i x σ H11 H12 hi hP hY => ?_) (fun σ H11 hP => ?_)⟩
      · obtain ⟨_, _, _, _, _, _, g⟩ := h
        exact .inl (.inl (gF g))
      · obtain ⟨rfl, hxa⟩ := hY
        obtain ⟨x6, x7, x8, x9, x10, rfl, g11⟩ := hP
        obtain ⟨ka, hka, kxa⟩ := pair_at pr hxa
        have ma := List.mem_of_getElem? hka
        refine ⟨_, rfl, F, rfl, ⟨_, .inl (.inl (gF g11))⟩, for_it (walk_list (xs := xs)) (fun _ σ H' => ∃ x7 x8 x9 x10, σ = [some v1, some v2, some v, some (.ref F), some (.int 6), some (.ref G), some x, x7, x8, x9, x10] ∧ Gx H10 H') ⟨_, _, _, _, rfl, g11⟩ (fun i σ H' _ h => ?_) (fun i y σ H13 H14 hi hP hY => ?_) (fun σ H13 hP => ?_)⟩
        · obtain ⟨_, _, _, _, _, g⟩ := h
          exact .inl (.inl (gF g))
        · obtain ⟨rfl, hxb⟩ := hY
          obtain ⟨x7, x8, x9, x10, rfl, g13'⟩ := hP
          obtain ⟨kb, hkb, kxb⟩ := pair_at pr hxb
          have mb := List.mem_of_getElem? hkb
          have gk13 := g1a.trans g13'
          refine ⟨_, rfl, _, rfl, _, rfl, v, x, y, ds, ka, kb, rfl, hv.keep gk13.tk, sm.good, kxF g13' kxa, kxF g13' kxb, gk _ ma, gk _ mb, hf, fun H15 o g15' bd => ?_⟩
          have g15 := g13'.trans g15'
          -- met
          refine ⟨_, rfl, G, rfl, ⟨_, .inl (.inl (gG g15))⟩, fun D hD => lc_it (walk_list (xs := gs)) (PvG H15 D (AMap (goodM ds ks) fun N => V.int (getM N ka - getM N kb))) (PvG.ini hD .ini) (fun _ _ _ h => .inl (.inl (gG (g15.trans h.1)))) (fun i z H16 H17 hi hP hY => ?_) (fun H16 hP => ?_)⟩
          · obtain ⟨rfl, hzi⟩ := hY
            obtain ⟨g16, ys, e, am⟩ := hP
            obtain ⟨N, hN, d, rfl, hd⟩ := pair_at prg hzi
            have Nm := List.mem_of_getElem? hN
            obtain ⟨nd, kk, lk, vb, z0⟩ := gkeys Nm
            have gd := (g310.trans (g15.trans g16)).dicW hd
            have get : ∀ {k x} {R : VK}, k ∈ ks → KyV K H17 k x → R (.int (getM N k)) H17 → Mk.rIxD P w K (.ref d) x H17 R := fun hk kx r => ⟨d, _, _, _, rfl, gd.r, kx, by rw [VM_look, lk _ ((kk _).mpr ((pts.2 _).mp hk))]; rfl, r⟩
            refine ⟨rfl, _, rfl, _, rfl, get ma (kxF (g15.trans g16) kxa) ⟨_, rfl, _, rfl, get mb (kxF (g15.trans g16) kxb) ⟨_, _, rfl, rfl, ?_⟩⟩⟩
            exact PvG.put g16 hD e (line_lt (am.len (n := 2197) (by rw [Paired.length prg]; exact lgs))) (am.put hN)
          obtain ⟨g16, ys, e, am⟩ := hP
          rw [← Paired.length prg] at am
          have am := AMap.fin am
          have g116 := g15.trans g16
          refine ⟨D, (goodM ds ks).map fun N => getM N ka - getM N kb, rfl, .inl (.inl (by rw [e, am, List.map_map]; rfl)), by rw [List.length_map]; exact List.length_pos_iff.mpr gne, fun m hm hmax => ?_⟩
          obtain ⟨Nm, hNm, em⟩ := List.mem_map.mp hm
          have bsm : ∀ b, o = some b → -100000 ≤ b ∧ b ≤ 100000 := fun b hb => by
            subst hb
            have := bound_small pts (W := 2) (by decide) (fun d hd => (sm.2 d hd).2.2) hf bd
            have l6 := sm.1
            have h1 : (2 : Int) * ds.length * ((ks.length + 1 : Nat) : Int) ≤ 48 := by
              have a1 : (ds.length : Int) ≤ 6 := by omega
              have a2 : ((ks.length + 1 : Nat) : Int) ≤ 4 := by omega
              calc (2 : Int) * ds.length * ((ks.length + 1 : Nat) : Int) ≤ 12 * ((ks.length + 1 : Nat) : Int) := Int.mul_le_mul_of_nonneg_right (by omega) (Int.natCast_nonneg _)
                _ ≤ 48 := by omega
            omega
          rcases o with _ | b
          · refine ⟨_, rfl, nn_n ?_⟩
            refine ⟨_, rfl, nn_n ?_⟩
            refine ⟨_, rfl, _, rfl, _, rfl, _, rfl, v, x, y, ds, ka, kb, none, rfl, hv.keep (g1a.trans g116).tk, sm, kxF g116 kxa, kxF g116 kxb, gk _ ma, gk _ mb, hf, bd, bsm, fun H18 g18 => ⟨_, rfl, ?_⟩⟩
            exact ⟨_, _, _, _, rfl, g116.trans g18⟩
          · have mle : m ≤ b := by
              have := bd.1 _ (good_sol hNm)
              omega
            refine ⟨_, rfl, nn_y (by simp) ?_⟩
            refine ⟨_, rfl, _, rfl, b, m, rfl, rfl, _, rfl, ?_⟩
            rw [decide_eq_false (by omega)]
            refine ⟨_, rfl, nn_y (by simp) ?_⟩
            refine ⟨_, rfl, _, rfl, rfl, _, rfl, ?_⟩
            by_cases c : b = m
            · rw [show (!decide ((some b).elim V.non V.int = V.int m)) = false by simp [c]]
              refine ⟨_, rfl, _, rfl, _, rfl, _, rfl, v, x, y, ds, ka, kb, some b, rfl, hv.keep (g1a.trans g116).tk, sm, kxF g116 kxa, kxF g116 kxb, gk _ ma, gk _ mb, hf, bd, bsm, fun H18 g18 => ⟨_, rfl, ?_⟩⟩
              exact ⟨_, _, _, _, rfl, g116.trans g18⟩
            · rw [show (!decide ((some b).elim V.non V.int = V.int m)) = true by simp [c]]
              refine ⟨_, rfl, _, rfl, _, rfl, F, ks, b, rfl, (plv.gx (g2.trans (g3.trans (g310.trans g116)))), ⟨_, rfl, ?_⟩⟩
              have nn : (decide (ks.length < 3) && decide (-6 ≤ b ∧ b ≤ 6)) = false := by
                rw [Bool.and_eq_false_iff]
                by_cases c3 : ks.length < 3
                · refine .inr (decide_eq_false fun z => c ?_)
                  obtain ⟨N', hN', e'⟩ := near_met pts c3 ma mb bd z.1 z.2 gne
                  have := hmax _ (List.mem_map.mpr ⟨N', hN', rfl⟩)
                  omega
                · exact .inl (decide_eq_false c3)
              rw [nn]
              refine ⟨_, rfl, _, rfl, _, rfl, _, rfl, v, x, y, ds, ka, kb, some b, rfl, hv.keep (g1a.trans g116).tk, sm, kxF g116 kxa, kxF g116 kxb, gk _ ma, gk _ mb, hf, bd, bsm, fun H18 g18 => ⟨_, rfl, ?_⟩⟩
              exact ⟨_, _, _, _, rfl, g116.trans g18⟩
        · obtain ⟨x7, x8, x9, x10, rfl, g⟩ := hP
          exact ⟨_, _, _, _, _, rfl, g⟩
      · obtain ⟨x6, x7, x8, x9, x10, rfl, g⟩ := hP
        exact hq _ (g1a.trans g)
    · rw [gemp.mpr hf]
      exact ⟨true, rfl, hq _ (g13.trans g310)⟩
end
end Mk


set_option Elab.async false
set_option linter.all false
set_option maxRecDepth 100000
set_option maxHeartbeats 400000
/-! the law -/
namespace Mk
open PySem PySem.Spec PyProof.Rows L2
/-- a keg k and points p at work, H behind them -/
structure LSt (K : PySem.W.Frag) (H : Hp) (k p : Addr) (ks : List PK) (H' : Hp) : Prop where
  gx : Gx H H'
  kg : KegV H' k
  pl : PLV K H' p ks
  hk : H k = none
  ne : k ≠ p
theorem KegV.mut {H : Hp} {k : Addr} (h : KegV H k) : Mut (H k) := by obtain ⟨_, _, _, h⟩ := h; rw [h]; exact True.intro
theorem KegV.gx {H H' : Hp} {k : Addr} (h : KegV H k) (g : Gx H H') : KegV H' k := let ⟨a, b, c, e⟩ := h; ⟨a, b, c, g _ _ e⟩
section
variable {K : PySem.W.Frag} {H H' H2 : Hp} {k p F : Addr} {ks : List PK} {ds : List Dif} {u : HO}
theorem LSt.tap (s : LSt K H k p ks H') (h : KegV (upd H' k u) k) : LSt K H k p ks (upd H' k u) := ⟨s.gx.mut s.hk, h, s.pl.keep (upd_ne s.ne.symm) (Tk.mut s.kg.mut), s.hk, s.ne⟩
theorem LSt.grow (s : LSt K H k p ks H') (g : Gx H' H2) : LSt K H k p ks H2 := ⟨s.gx.trans g, s.kg.gx g, s.pl.gx g, s.hk, s.ne⟩
/-- the list F of drawn differences -/
structure FSt (K : PySem.W.Frag) (H : Hp) (k p : Addr) (ks : List PK) (F : Addr) (ds : List Dif) (H' : Hp) : Prop where
  st : LSt K H k p ks H'
  fl : ∃ ys, H' F = some (.lst ys) ∧ Paired (DifV K H') ds ys
  fk : F ≠ k
  fp : F ≠ p
  hF : H F = none
  sm : ∀ d ∈ ds, d.1 ∈ ks ∧ d.2.1 ∈ ks ∧ -2 ≤ d.2.2 ∧ d.2.2 ≤ 2
theorem FSt.tap (s : FSt K H k p ks F ds H') (h : KegV (upd H' k u) k) : FSt K H k p ks F ds (upd H' k u) :=
  let ⟨ys, a, b⟩ := s.fl
  ⟨s.st.tap h, ⟨ys, by rw [upd_ne s.fk]; exact a, Paired.mapP b fun _ _ z => z.keep (Tk.mut s.st.kg.mut)⟩, s.fk, s.fp, s.hF, s.sm⟩
theorem FSt.grow (s : FSt K H k p ks F ds H') (g : Gx H' H2) : FSt K H k p ks F ds H2 :=
  let ⟨ys, a, b⟩ := s.fl
  ⟨s.st.grow g, ⟨ys, g _ _ a, Paired.mapP b fun _ _ z => z.keep g.tk⟩, s.fk, s.fp, s.hF, s.sm⟩
theorem FSt.put (s : FSt K H k p ks F ds H') {ys : List V} {y : V} {d : Dif} (e : H' F = some (.lst ys)) (pr : Paired (DifV K H') ds ys) (dy : DifV K H' d y) (hd : d.1 ∈ ks ∧ d.2.1 ∈ ks ∧ -2 ≤ d.2.2 ∧ d.2.2 ≤ 2) : FSt K H k p ks F (ds ++ [d]) (upd H' F (.lst (ys ++ [y]))) := by
  have t : Tk K H' (upd H' F (.lst (ys ++ [y]))) := Tk.mut (by rw [e]; exact True.intro)
  refine ⟨⟨s.st.gx.mut s.hF, ?_, s.st.pl.keep (upd_ne s.fp.symm) t, s.st.hk, s.st.ne⟩, ⟨_, upd_same, pair_snoc (Paired.mapP pr fun _ _ z => z.keep t) (dy.keep t)⟩, s.fk, s.fp, s.hF, fun x hx => ?_⟩
  · obtain ⟨a, b, c, h⟩ := s.st.kg
    exact ⟨a, b, c, by rw [upd_ne s.fk.symm]; exact h⟩
  · rcases List.mem_append.mp hx with h | h
    · exact s.sm x h
    · rw [List.mem_singleton] at h
      rw [h]; exact hd
end
section
variable {P : Program} {w : World} {K : PySem.W.Frag} {mg : Str → Option Value} {base : Heap}
def spLaw (K : PySem.W.Frag) : Sp := fun vs H Q _ => ∃ (a : Addr) (ns : List Int), vs = [.ref a] ∧ SqL K H a (ns.map V.int) ∧ ns.length ≤ 63 ∧ ∀ H', Q (.bl true) H'
theorem ok_law {f : Addr} {fd : FuncData} (F : Fun K "law" "law" s_law f fd) (T : Tops mg) (C__law_keg : Cal P w K mg base "_law_keg" 1 ["script", "at"] (spKeg K)) (C__law_tap : Cal P w K mg base "_law_tap" 1 ["keg", "total"] spTap) (C__law_choice : Cal P w K mg base "_law_choice" 2 ["keg", "items"] (spOne K)) (C__law_points_drawn : Cal P w K mg base "_law_points_drawn" 3 ["keg", "count"] (spDrawn K))
    (C__law_right : Cal P w K mg base "_law_right" 8 ["keg", "points", "differences"] (spRight K)) (C__law_sums_right : Cal P w K mg base "_law_sums_right" 7 ["differences"] (spSums K)) (C_fitting : Cal P w K mg base "fitting" 6 ["differences"] (spFit P w K)) : FnOk P w K mg base CX0 9 f fd ["script"] (spLaw K) := by
  refine F.ok sc_law (fun vs H Q E h => ?_) (fun cdv A outer s H vs Q E hr h => ?_)
  · obtain ⟨a, ns, rfl, _⟩ := h; rfl
  · obtain ⟨a, ns, rfl, hS, hl, q⟩ := h
    have hu := hu_of hr
    have h0 := hr.units0
    have h64 := hr.units
    refine ⟨_, (pss_cons (ps_for PassesOwn.never rfl (pi_range1 (by rfl) T.b_range (pa_cons (pe_callB (call_max2 rfl) (by rfl) T.b_max (by decide +kernel) (pa_cons pe_int (pa_cons (pe_callB (call_min2 rfl) (by rfl) T.b_min (by decide +kernel) (pa_cons pe_int (pa_cons (pe_callB call_len_seq (by rfl) T.b_len (by decide +kernel) (pa_cons (pv 0) pa_nil)) pa_nil))) pa_nil))) pa_nil)) (pg_name (i := 1) sc_law.nd rfl (Or.inl rfl))
      (pss_cons (ps_set (i := 2) sc_law.nd rfl (Or.inl rfl) (pe_cal C__law_keg hr (by decide) (by rfl) (pa_cons (pv 0) (pa_cons (pv 1) pa_nil))))
      (pss_cons (ps_set (i := 3) sc_law.nd rfl (Or.inl rfl) (pe_cal C__law_points_drawn hr (by decide) (by rfl) (pa_cons (pv 2) (pa_cons (pe_op op_add pe_int (pe_cal C__law_tap hr (by decide) (by rfl) (pa_cons (pv 2) (pa_cons pe_int pa_nil)))) pa_nil))))
      (pss_one (ps_for PassesOwn.never rfl (pi_range1 (by rfl) T.b_range (pa_cons pe_int pa_nil)) (pg_name (i := 4) sc_law.nd rfl (Or.inl rfl))
      (pss_cons (ps_set (i := 5) sc_law.nd rfl (Or.inl rfl) (pe_lst pa_nil))
      (pss_cons (ps_for PassesOwn.never rfl (pi_range1 (by rfl) T.b_range (pa_cons (pe_cal C__law_tap hr (by decide) (by rfl) (pa_cons (pv 2) (pa_cons pe_int pa_nil))) pa_nil)) (pg_name (i := 6) sc_law.nd rfl (Or.inl rfl))
      (pss_cons (ps_par rfl sc_law.nd (i := 7) (j := 8) rfl rfl (by decide) rfl rfl (pa_cons (pe_cal C__law_choice hr (by decide) (by rfl) (pa_cons (pv 2) (pa_cons (pv 3) pa_nil))) (pa_cons (pe_cal C__law_choice hr (by decide) (by rfl) (pa_cons (pv 2) (pa_cons (pv 3) pa_nil))) pa_nil)) (by rfl))
      (pss_one (ps_expr (pe_bm PySem.F.plainAttrs_list PySem.F.slot_list_append PySem.F.type_list_append mt_append (pv 5) (pa_cons (pe_tup (pa_cons (pv 7) (pa_cons (pv 8) (pa_cons (pe_op op_sub (pe_cal C__law_tap hr (by decide) (by rfl) (pa_cons (pv 2) (pa_cons pe_int pa_nil))) pe_int) pa_nil)))) pa_nil))))))
      (pss_cons (ps_set (i := 9) sc_law.nd rfl (Or.inl rfl) (pe_callTy call_tuple_of (by rfl) T.b_tuple (by decide +kernel) (pa_cons (pv 5) pa_nil)))
      (pss_cons (ps_if (pt_not (pt_val (pe_cal C__law_right hr (by decide) (by rfl) (pa_cons (pv 2) (pa_cons (pv 3) (pa_cons (pv 9) pa_nil)))))) (pss_one (ps_ret pe_bl)) pss_nil)
      (pss_one (ps_if (PW.pt (pw_and (pt_cmpR op_notN (pe_cal C_fitting hr (by decide) (by rfl) (pa_cons (pv 9) pa_nil)) pe_non (nomark _)) (pw_and1 (pt_not (pt_val (pe_cal C__law_sums_right hr (by decide) (by rfl) (pa_cons (pv 9) pa_nil))))))) (pss_one (ps_ret pe_bl)) pss_nil)))))))))))
      (pss_one (ps_ret pe_bl))), ?_⟩
    refine ⟨_, rfl, a, _, rfl, .inl hS, _, _, rfl, _, _, rfl, _, rfl, ?_⟩
    generalize hn : (if (if ((ns.map V.int).length : Int) < 4 then ((ns.map V.int).length : Int) else 4) > 1 then (if ((ns.map V.int).length : Int) < 4 then ((ns.map V.int).length : Int) else 4) else 1) = n
    have n1 : 0 ≤ n := by rw [← hn]; split <;> omega
    have n2 : n ≤ 63 := by
      rw [← hn]
      rw [List.length_map]
      split <;> split <;> omega
    refine ⟨by omega, by omega, for_it walk_range (fun _ σ H' => ∃ x1 x2 x3 x4 x5 x6 x7 x8 x9, σ = [some (.ref a), x1, x2, x3, x4, x5, x6, x7, x8, x9] ∧ Gx H H') ⟨_, _, _, _, _, _, _, _, _, rfl, .refl⟩ (fun _ _ _ _ _ => trivial) (fun i x σ H1 H2 hi hP hY => ?_) (fun σ H1 hP => ?_)⟩
    · obtain ⟨rfl, rfl⟩ := hY
      obtain ⟨x1, x2, x3, x4, x5, x6, x7, x8, x9, rfl, g1⟩ := hP
      -- keg
      refine ⟨_, rfl, _, rfl, a, ns, _, rfl, g1.seqL hS, by omega, fun k gk sk hk => ?_⟩
      have g2 := Gx.new (o := .lst [.int gk, .int sk, .int 0]) hk
      have kk : KegV (upd H2 k (.lst [.int gk, .int sk, .int 0])) k := ⟨_, _, _, upd_same⟩
      have hk0 : H k = none := g1.free hk
      have g12 := g1.trans g2
      generalize upd H2 k (.lst [.int gk, .int sk, .int 0]) = H3 at *
      -- points
      refine ⟨_, rfl, _, rfl, k, 2, rfl, kk, by decide, by decide, fun r1 u1 r10 r11 kk1 => ⟨_, _, rfl, rfl, ?_⟩⟩
      have kk1g : Gx H (upd H3 k u1) := g12.mut hk0
      generalize upd H3 k u1 = H4 at *
      refine ⟨k, _, rfl, kk1, by omega, by omega, fun H5 p ks g5 kk5 hp plv gks ⟨pa, pb, hab⟩ l0 l3 => ?_⟩
      have nkp : k ≠ p := fun z => by
        obtain ⟨_, _, _, h⟩ := kk1
        rw [z, hp] at h; cases h
      have s5 : LSt K H k p ks H5 := ⟨fun b o h => g5 b o (fun z => by rw [z, hk0] at h; cases h) (kk1g _ _ h), kk5, plv, hk0, nkp⟩
      clear kk5 plv g5
      refine ⟨3, rfl, by decide, by decide, for_it walk_range (fun _ σ H' => ∃ x4 x5 x6 x7 x8 x9, σ = [some (.ref a), some (.int (0 + (i : Int))), some (.ref k), some (.ref p), x4, x5, x6, x7, x8, x9] ∧ LSt K H k p ks H') ⟨_, _, _, _, _, _, rfl, s5⟩ (fun _ _ _ _ _ => trivial) (fun j x σ H6 H7 hj hP hY => ?_) (fun σ H6 hP => ?_)⟩
      · obtain ⟨rfl, rfl⟩ := hY
        obtain ⟨x4, x5, x6, x7, x8, x9, rfl, s6⟩ := hP
        refine ⟨Nat.zero_le _, fun F hF => ?_⟩
        have gF := Gx.new (o := .lst []) hF
        have fF : (upd H7 F (.lst [])) F = some (.lst []) := upd_same
        have nFk : F ≠ k := fun z => by
          obtain ⟨_, _, _, h⟩ := s6.kg
          rw [← z, hF] at h; cases h
        have nFp : F ≠ p := fun z => by
          obtain ⟨_, h, _⟩ := s6.pl
          rw [← z, hF] at h; cases h
        have hF0 : H F = none := s6.gx.free hF
        have s8 : FSt K H k p ks F [] (upd H7 F (.lst [])) := ⟨s6.grow gF, ⟨[], fF, .nil⟩, nFk, nFp, hF0, fun _ h => by cases h⟩
        generalize upd H7 F (.lst []) = H8 at *
        -- how many
        refine ⟨_, rfl, k, 7, rfl, s8.st.kg, by decide, by decide, fun c u c0 c7 kc => ⟨c, rfl, by omega, by omega, ?_⟩⟩
        have s9 := s8.tap kc
        generalize upd H8 k u = H9 at *
        refine for_it walk_range (fun i1 σ H' => ∃ x6 x7 x8 x9 ds, σ = [some (.ref a), some (.int (0 + (i : Int))), some (.ref k), some (.ref p), some (.int (0 + (j : Int))), some (.ref F), x6, x7, x8, x9] ∧ ds.length = i1 ∧ FSt K H k p ks F ds H') ⟨_, _, _, _, [], rfl, rfl, s9⟩ (fun _ _ _ _ _ => trivial) (fun m x σ H10 H11 hm hP hY => ?_) (fun σ H10 hP => ?_)
        · obtain ⟨rfl, rfl⟩ := hY
          obtain ⟨x6, x7, x8, x9, ds, rfl, ld, s10⟩ := hP
          refine ⟨_, rfl, _, rfl, k, p, ks, rfl, s10.st.kg, s10.st.pl, l0, by omega, nkp, fun v1 k1 u1 ky1 m1 kg1 => ?_⟩
          have s11 := s10.tap kg1
          generalize upd H11 k u1 = H12 at *
          refine ⟨_, rfl, _, rfl, k, p, ks, rfl, s11.st.kg, s11.st.pl, l0, by omega, nkp, fun v2 k2 u2 ky2 m2 kg2 => ⟨_, _, rfl, ?_⟩⟩
          have s12 := s11.tap kg2
          have ky1' := ky1.keep (Tk.mut (o := u2) s11.st.kg.mut)
          generalize upd H12 k u2 = H13 at *
          obtain ⟨ys, e13, pr13⟩ := s12.fl
          refine ⟨_, rfl, .inl ⟨rfl, _, .inl (.inl e13)⟩, _, rfl, _, rfl, _, rfl, k, 5, rfl, s12.st.kg, by decide, by decide, fun r u3 r0 r5 kg3 => ?_⟩
          have s13 := s12.tap kg3
          have ky1'' := ky1'.keep (Tk.mut (o := u3) s12.st.kg.mut)
          have ky2'' := ky2.keep (Tk.mut (o := u3) s12.st.kg.mut)
          generalize upd H13 k u3 = H14 at *
          refine ⟨r, 2, rfl, rfl, Nat.le_of_ble_eq_true rfl, fun t ht => ?_⟩
          have gt := Gx.new (o := .tup [v1, v2, .int (r - 2)]) ht
          have et : (upd H14 t (.tup [v1, v2, .int (r - 2)])) t = some (.tup [v1, v2, .int (r - 2)]) := upd_same
          have s14 := s13.grow gt
          have ky1t := ky1''.keep gt.tk
          have ky2t := ky2''.keep gt.tk
          generalize upd H14 t (.tup [v1, v2, .int (r - 2)]) = H15 at *
          obtain ⟨ys, e15, pr15⟩ := s14.fl
          refine ⟨F, ys, _, rfl, rfl, e15, line_lt (m := 10) (by rw [← Paired.length pr15, ld]; omega), ?_⟩
          exact ⟨_, _, _, _, ds ++ [(k1, k2, r - 2)], rfl, by rw [List.length_append, List.length_singleton, ld], s14.put e15 pr15 ⟨t, v1, v2, rfl, .inl (.inl et), ky1t, ky2t⟩ ⟨m1, m2, by dsimp only; omega, by dsimp only; omega⟩⟩
        · obtain ⟨x6, x7, x8, x9, ds, rfl, ld, s10⟩ := hP
          obtain ⟨ys, e10, pr10⟩ := s10.fl
          refine ⟨_, rfl, F, ys, rfl, .inl ⟨.inl (.inl e10), fun t ht => ?_⟩⟩
          have gt := Gx.new (o := .tup ys) ht
          have et : (upd H10 t (.tup ys)) t = some (.tup ys) := upd_same
          have s11 := s10.grow gt
          have hv : DsV K (upd H10 t (.tup ys)) ds (.ref t) := ⟨t, ys, rfl, .inl (.inl et), Paired.mapP pr10 fun _ _ z => z.keep gt.tk⟩
          generalize upd H10 t (.tup ys) = H11 at *
          have sm : SmallDs ds := ⟨by omega, fun d hd => by
            obtain ⟨a1, a2, a3, a4⟩ := s10.sm d hd
            exact ⟨gks _ a1, gks _ a2, a3, a4⟩⟩
          have few : FewDs ds := ⟨sm, pa, pb, fun x hx => by
            rcases List.mem_cons.mp hx with h | h
            · exact .inl h
            · obtain ⟨d, hd, h⟩ := List.mem_flatMap.mp h
              obtain ⟨a1, a2, _⟩ := s10.sm d hd
              simp only [List.mem_cons, List.not_mem_nil, or_false] at h
              rcases h with rfl | rfl
              · exact hab _ a1
              · exact hab _ a2⟩
          have gH : ∀ {H12}, Gx H11 H12 → LSt K H k p ks H12 := fun g => s11.st.grow g
          refine ⟨_, rfl, _, rfl, _, rfl, .ref k, .ref p, .ref t, ds, rfl, hv, few, fun H12 g12' => ⟨_, rfl, ?_⟩⟩
          refine ⟨_, rfl, .ref t, ds, rfl, hv.keep g12'.tk, sm.good, fun hf H13 g13' => ?_, fun hf H13 pp kks gg g13' hp5 pts5 hd5 hs5 hz5 => ?_⟩
          · refine nn_n ?_
            exact ⟨_, _, _, _, _, _, rfl, gH (g12'.trans g13')⟩
          · refine nn_y (by simp) ?_
            refine ⟨_, rfl, .ref t, ds, rfl, hv.keep (g12'.trans g13').tk, sm, hf, fun H14 g14 => ⟨_, rfl, ?_⟩⟩
            exact ⟨_, _, _, _, _, _, rfl, gH ((g12'.trans g13').trans g14)⟩
      · obtain ⟨x4, x5, x6, x7, x8, x9, rfl, s6⟩ := hP
        exact ⟨_, _, _, _, _, _, _, _, _, rfl, s6.gx⟩
    · exact q _
end
end Mk


set_option Elab.async false
set_option linter.all false
set_option maxRecDepth 100000
set_option maxHeartbeats 400000
/-! what the top has written; the law's own head -/
namespace Mk
open PySem PySem.Spec PyProof.Rows L2
theorem def_mk {K : PySem.W.Frag} {h : Heap} {mg : Str → Option Value} {x : Str} {st : Stmt} {ps : List Str} {f : Addr} {od an : Option Addr} {sl : Array (Option Value)} {oc kV dc pm cd ct : Value} (X : K.In h) (G : h.Ns mainGlobals mg)
    (a : PySem.W.nsIn K mainGlobals x = some (some (.ref f))) (l : K.lookup f = some ⟨oc, od, .func (PySem.W.fnOf x x (defArgs st) (defBody st) (defScope st) .none kV dc pm an cd ct), sl⟩) (c : PySem.W.codeIn K cd x = true) (k : PySem.W.keepIn K (.ref f) = true)
    (b : ∀ (F : Fun K x x st f (PySem.W.fnOf x x (defArgs st) (defBody st) (defScope st) .none kV dc pm an cd ct)), Binds K (PySem.W.fnOf x x (defArgs st) (defBody st) (defScope st) .none kV dc pm an cd ct) ps []) : Def K mg x st ps :=
  ⟨f, _, fun_mk (st := st) l c k, PySem.W.mg_of X G a, b (fun_mk (st := st) l c k)⟩
theorem int_mk {K : PySem.W.Frag} {h : Heap} {mg : Str → Option Value} {x : Str} {i : Int} {t : Tok} (X : K.In h) (G : h.Ns mainGlobals mg) (a : PySem.W.nsIn K mainGlobals x = some (some (.int i t))) : IsC mg x (.int i) := ⟨_, PySem.W.mg_of X G a, t, rfl⟩
theorem str_mk {K : PySem.W.Frag} {h : Heap} {mg : Str → Option Value} {x : Str} {i : Str} {t : Tok} (X : K.In h) (G : h.Ns mainGlobals mg) (a : PySem.W.nsIn K mainGlobals x = some (some (.str i t))) : IsC mg x (.str i) := ⟨_, PySem.W.mg_of X G a, t, rfl⟩
theorem all_mk {l : PySem.W.OpenLaw} {w : World} {K : PySem.W.Frag} {h : Heap} {mg : Str → Option Value} {fa : Addr} (X : K.In h) (G : h.Ns mainGlobals mg) (hfa : mg "law" = some (.ref fa))
    {fl : Addr} {odl anl : Option Addr} {sll : Array (Option Value)} {ocl kVl dcl pml cdl ctl : Value}
    (al : PySem.W.nsIn K mainGlobals "law" = some (some (.ref fl))) (ll : K.lookup fl = some ⟨ocl, odl, .func (PySem.W.fnOf "law" "law" (defArgs s_law) (defBody s_law) (defScope s_law) .none kVl dcl pml anl cdl ctl), sll⟩) (cl : PySem.W.codeIn K cdl "law" = true) (kl : PySem.W.keepIn K (.ref fl) = true)
    (D_is_integer : Def K mg "is_integer" s_is_integer ["value"])
    (D_is_name : Def K mg "is_name" s_is_name ["value"])
    (D_is_new : Def K mg "is_new" s_is_new ["value"])
    (D_is_place : Def K mg "is_place" s_is_place ["value"])
    (D_is_point : Def K mg "is_point" s_is_point ["value"])
    (D_is_difference : Def K mg "is_difference" s_is_difference ["value"])
    (D_require_differences : Def K mg "require_differences" s_require_differences ["value"])
    (D_require_point : Def K mg "require_point" s_require_point ["value"])
    (D_points_of : Def K mg "points_of" s_points_of ["differences"])
    (D_improved : Def K mg "improved" s_improved ["differences", "numbers", "steps"])
    (D_settled : Def K mg "settled" s_settled ["differences", "numbers"])
    (D_ring_in : Def K mg "ring_in" s_ring_in ["differences", "steps"])
    (D_ring_of : Def K mg "ring_of" s_ring_of ["differences"])
    (D_fitted : Def K mg "fitted" s_fitted ["differences"])
    (D_bound_of : Def K mg "bound_of" s_bound_of ["differences", "one", "other"])
    (D_fitting : Def K mg "fitting" s_fitting ["differences"])
    (D_is_fitting : Def K mg "is_fitting" s_is_fitting ["differences", "value"])
    (D_ring : Def K mg "ring" s_ring ["differences"])
    (D_tightest : Def K mg "tightest" s_tightest ["differences", "one", "other"])
    (D__law_keg : Def K mg "_law_keg" s__law_keg ["script", "at"])
    (D__law_tap : Def K mg "_law_tap" s__law_tap ["keg", "total"])
    (D__law_choices : Def K mg "_law_choices" s__law_choices ["keg", "items", "count"])
    (D__law_points_drawn : Def K mg "_law_points_drawn" s__law_points_drawn ["keg", "count"])
    (D__law_choice : Def K mg "_law_choice" s__law_choice ["keg", "items"])
    (D__law_points_in : Def K mg "_law_points_in" s__law_points_in ["differences"])
    (D__law_tried : Def K mg "_law_tried" s__law_tried ["points", "most"])
    (D__law_are_true : Def K mg "_law_are_true" s__law_are_true ["differences", "numbers"])
    (D__law_is_near : Def K mg "_law_is_near" s__law_is_near ["names", "most", "told"])
    (D__law_bound_right : Def K mg "_law_bound_right" s__law_bound_right ["differences", "one", "other", "told"])
    (D__law_right : Def K mg "_law_right" s__law_right ["keg", "points", "differences"])
    (D__law_sums_right : Def K mg "_law_sums_right" s__law_sums_right ["differences"])
    (T : Tops mg) :
    ∃ fd : FuncData, (∀ (s : Shared) (v : Value), BindsTo s fd ⟨[v], []⟩ [("script", v)]) ∧ ∀ base : Heap, K.In base → base.Ns mainGlobals mg → FnOk l.prog w K mg base CX0 9 fa fd ["script"] (spLaw K) := by
  have e := hfa.symm.trans (PySem.W.mg_of X G al)
  cases e
  have F := fun_mk (st := s_law) ll cl kl
  refine ⟨PySem.W.fnOf "law" "law" (defArgs s_law) (defBody s_law) (defScope s_law) .none kVl dcl pml anl cdl ctl, fun s v => .of_eq rfl, fun base _ _ => ?_⟩
  have C_is_integer := Mk.C_is_integer (P := l.prog) (w := w) (base := base) T D_is_integer
  have C_is_name := Mk.C_is_name (P := l.prog) (w := w) (base := base) T D_is_name
  have C_is_new := Mk.C_is_new (P := l.prog) (w := w) (base := base) T D_is_new
  have C_is_place := Mk.C_is_place (P := l.prog) (w := w) (base := base) T D_is_place C_is_name C_is_new
  have C_is_point := Mk.C_is_point (P := l.prog) (w := w) (base := base) T D_is_point C_is_integer C_is_name C_is_place
  have C_is_difference := Mk.C_is_difference (P := l.prog) (w := w) (base := base) T D_is_difference C_is_integer C_is_point
  have C_require_differences := Mk.C_require_differences (P := l.prog) (w := w) (base := base) T D_require_differences C_is_difference
  have C_require_point := Mk.C_require_point (P := l.prog) (w := w) (base := base) T D_require_point C_is_point
  have C_points_of := Mk.C_points_of (P := l.prog) (w := w) (base := base) T D_points_of
  have C_improved := Mk.C_improved (P := l.prog) (w := w) (base := base) T D_improved
  have C_settled := Mk.C_settled (P := l.prog) (w := w) (base := base) T D_settled C_points_of C_improved
  have C_ring_in := Mk.C_ring_in (P := l.prog) (w := w) (base := base) T D_ring_in
  have C_ring_of := Mk.C_ring_of (P := l.prog) (w := w) (base := base) T D_ring_of C_points_of C_settled C_ring_in
  have C_fitted := Mk.C_fitted (P := l.prog) (w := w) (base := base) T D_fitted C_points_of C_settled
  have C_bound_of := Mk.C_bound_of (P := l.prog) (w := w) (base := base) T D_bound_of C_settled
  have C_fitting := Mk.C_fitting (P := l.prog) (w := w) (base := base) T D_fitting C_require_differences C_fitted
  have C_is_fitting := Mk.C_is_fitting (P := l.prog) (w := w) (base := base) T D_is_fitting C_require_differences C_points_of C_is_integer
  have C_ring := Mk.C_ring (P := l.prog) (w := w) (base := base) T D_ring C_require_differences C_ring_of
  have C_tightest := Mk.C_tightest (P := l.prog) (w := w) (base := base) T D_tightest C_require_differences C_require_point C_fitted C_bound_of
  have C__law_keg := Mk.C__law_keg (P := l.prog) (w := w) (base := base) T D__law_keg
  have C__law_tap := Mk.C__law_tap (P := l.prog) (w := w) (base := base) T D__law_tap
  have C__law_choices := Mk.C__law_choices (P := l.prog) (w := w) (base := base) T D__law_choices C__law_tap
  have C__law_points_drawn := Mk.C__law_points_drawn (P := l.prog) (w := w) (base := base) T D__law_points_drawn C__law_choices
  have C__law_choice := Mk.C__law_choice (P := l.prog) (w := w) (base := base) T D__law_choice C__law_tap
  have C__law_points_in := Mk.C__law_points_in (P := l.prog) (w := w) (base := base) T D__law_points_in
  have C__law_tried := Mk.C__law_tried (P := l.prog) (w := w) (base := base) T D__law_tried
  have C__law_are_true := Mk.C__law_are_true (P := l.prog) (w := w) (base := base) T D__law_are_true
  have C__law_is_near := Mk.C__law_is_near (P := l.prog) (w := w) (base := base) T D__law_is_near
  have C__law_bound_right := Mk.C__law_bound_right (P := l.prog) (w := w) (base := base) T D__law_bound_right C_fitting C_ring C_tightest
  have C__law_right := Mk.C__law_right (P := l.prog) (w := w) (base := base) T D__law_right C__law_points_in C__law_tried C__law_are_true C__law_is_near C__law_bound_right C_fitting C_ring C_tightest C_is_fitting
  have C__law_sums_right := Mk.C__law_sums_right (P := l.prog) (w := w) (base := base) T D__law_sums_right C__law_points_in C_tightest
  exact ok_law (P := l.prog) (w := w) (base := base) F T C__law_keg C__law_tap C__law_choice C__law_points_drawn C__law_right C__law_sums_right C_fitting
end Mk


set_option Elab.async false
set_option linter.all false
set_option maxRecDepth 100000
open PySem PySem.W PyProof.Rows
set_option maxHeartbeats 0 in
theorem PySem.Challenge.cw_cellsenough_k21_whole_tightest_numbers_holds : PySem.Challenge.rw_cellsenough_k21_whole_tightest_numbers.Holds := by
  w_on; o_law; k_head; (case hw => w_witness2)
  k_fill
  refine L2.walk_of (l := PySem.Challenge.rw_cellsenough_k21_whole_tightest_numbers) (n := 63) (k := 9) (x := "script") (CX := fun _ => L2.CX0) (sp := fun w => Mk.spLaw _) rfl (by decide) rfl ⟨rfl, by decide, by decide⟩ (fun w h Y => PySem.W.kIn_of Y) ?F (fun _ _ a ns hl _ hS => ⟨a, ns, rfl, hS, hl, fun _ => rfl⟩) (fun _ _ _ _ _ h => h)
  case F =>
    intro w mg fa h KX G hmg
    refine' Mk.all_mk KX G hmg ?al ?ll ?cl ?kl ?D_is_integer ?D_is_name ?D_is_new ?D_is_place ?D_is_point ?D_is_difference ?D_require_differences ?D_require_point ?D_points_of ?D_improved ?D_settled ?D_ring_in ?D_ring_of ?D_fitted ?D_bound_of ?D_fitting ?D_is_fitting ?D_ring ?D_tightest ?D__law_keg ?D__law_tap ?D__law_choices ?D__law_points_drawn ?D__law_choice ?D__law_points_in ?D__law_tried ?D__law_are_true ?D__law_is_near ?D__law_bound_right ?D__law_right ?D__law_sums_right ?T
    (case al => k_is); (case ll => k_is); (case cl => k_is); (case kl => k_is)
    case D_is_integer =>
      refine' Mk.def_mk KX G ?a ?l ?c ?k (fun F => F.binds (ps := ["value"]) fun _ _ _ _ _ _ us hl => match us, hl with | [_], _ => rfl)
      (case a => k_is); (case l => k_is); (case c => k_is); (case k => k_is)
    case D_is_name =>
      refine' Mk.def_mk KX G ?a ?l ?c ?k (fun F => F.binds (ps := ["value"]) fun _ _ _ _ _ _ us hl => match us, hl with | [_], _ => rfl)
      (case a => k_is); (case l => k_is); (case c => k_is); (case k => k_is)
    case D_is_new =>
      refine' Mk.def_mk KX G ?a ?l ?c ?k (fun F => F.binds (ps := ["value"]) fun _ _ _ _ _ _ us hl => match us, hl with | [_], _ => rfl)
      (case a => k_is); (case l => k_is); (case c => k_is); (case k => k_is)
    case D_is_place =>
      refine' Mk.def_mk KX G ?a ?l ?c ?k (fun F => F.binds (ps := ["value"]) fun _ _ _ _ _ _ us hl => match us, hl with | [_], _ => rfl)
      (case a => k_is); (case l => k_is); (case c => k_is); (case k => k_is)
    case D_is_point =>
      refine' Mk.def_mk KX G ?a ?l ?c ?k (fun F => F.binds (ps := ["value"]) fun _ _ _ _ _ _ us hl => match us, hl with | [_], _ => rfl)
      (case a => k_is); (case l => k_is); (case c => k_is); (case k => k_is)
    case D_is_difference =>
      refine' Mk.def_mk KX G ?a ?l ?c ?k (fun F => F.binds (ps := ["value"]) fun _ _ _ _ _ _ us hl => match us, hl with | [_], _ => rfl)
      (case a => k_is); (case l => k_is); (case c => k_is); (case k => k_is)
    case D_require_differences =>
      refine' Mk.def_mk KX G ?a ?l ?c ?k (fun F => F.binds (ps := ["value"]) fun _ _ _ _ _ _ us hl => match us, hl with | [_], _ => rfl)
      (case a => k_is); (case l => k_is); (case c => k_is); (case k => k_is)
    case D_require_point =>
      refine' Mk.def_mk KX G ?a ?l ?c ?k (fun F => F.binds (ps := ["value"]) fun _ _ _ _ _ _ us hl => match us, hl with | [_], _ => rfl)
      (case a => k_is); (case l => k_is); (case c => k_is); (case k => k_is)
    case D_points_of =>
      refine' Mk.def_mk KX G ?a ?l ?c ?k (fun F => F.binds (ps := ["differences"]) fun _ _ _ _ _ _ us hl => match us, hl with | [_], _ => rfl)
      (case a => k_is); (case l => k_is); (case c => k_is); (case k => k_is)
    case D_improved =>
      refine' Mk.def_mk KX G ?a ?l ?c ?k (fun F => F.binds (ps := ["differences", "numbers", "steps"]) fun _ _ _ _ _ _ us hl => match us, hl with | [_, _, _], _ => rfl)
      (case a => k_is); (case l => k_is); (case c => k_is); (case k => k_is)
    case D_settled =>
      refine' Mk.def_mk KX G ?a ?l ?c ?k (fun F => F.binds (ps := ["differences", "numbers"]) fun _ _ _ _ _ _ us hl => match us, hl with | [_, _], _ => rfl)
      (case a => k_is); (case l => k_is); (case c => k_is); (case k => k_is)
    case D_ring_in =>
      refine' Mk.def_mk KX G ?a ?l ?c ?k (fun F => F.binds (ps := ["differences", "steps"]) fun _ _ _ _ _ _ us hl => match us, hl with | [_, _], _ => rfl)
      (case a => k_is); (case l => k_is); (case c => k_is); (case k => k_is)
    case D_ring_of =>
      refine' Mk.def_mk KX G ?a ?l ?c ?k (fun F => F.binds (ps := ["differences"]) fun _ _ _ _ _ _ us hl => match us, hl with | [_], _ => rfl)
      (case a => k_is); (case l => k_is); (case c => k_is); (case k => k_is)
    case D_fitted =>
      refine' Mk.def_mk KX G ?a ?l ?c ?k (fun F => F.binds (ps := ["differences"]) fun _ _ _ _ _ _ us hl => match us, hl with | [_], _ => rfl)
      (case a => k_is); (case l => k_is); (case c => k_is); (case k => k_is)
    case D_bound_of =>
      refine' Mk.def_mk KX G ?a ?l ?c ?k (fun F => F.binds (ps := ["differences", "one", "other"]) fun _ _ _ _ _ _ us hl => match us, hl with | [_, _, _], _ => rfl)
      (case a => k_is); (case l => k_is); (case c => k_is); (case k => k_is)
    case D_fitting =>
      refine' Mk.def_mk KX G ?a ?l ?c ?k (fun F => F.binds (ps := ["differences"]) fun _ _ _ _ _ _ us hl => match us, hl with | [_], _ => rfl)
      (case a => k_is); (case l => k_is); (case c => k_is); (case k => k_is)
    case D_is_fitting =>
      refine' Mk.def_mk KX G ?a ?l ?c ?k (fun F => F.binds (ps := ["differences", "value"]) fun _ _ _ _ _ _ us hl => match us, hl with | [_, _], _ => rfl)
      (case a => k_is); (case l => k_is); (case c => k_is); (case k => k_is)
    case D_ring =>
      refine' Mk.def_mk KX G ?a ?l ?c ?k (fun F => F.binds (ps := ["differences"]) fun _ _ _ _ _ _ us hl => match us, hl with | [_], _ => rfl)
      (case a => k_is); (case l => k_is); (case c => k_is); (case k => k_is)
    case D_tightest =>
      refine' Mk.def_mk KX G ?a ?l ?c ?k (fun F => F.binds (ps := ["differences", "one", "other"]) fun _ _ _ _ _ _ us hl => match us, hl with | [_, _, _], _ => rfl)
      (case a => k_is); (case l => k_is); (case c => k_is); (case k => k_is)
    case D__law_keg =>
      refine' Mk.def_mk KX G ?a ?l ?c ?k (fun F => F.binds (ps := ["script", "at"]) fun _ _ _ _ _ _ us hl => match us, hl with | [_, _], _ => rfl)
      (case a => k_is); (case l => k_is); (case c => k_is); (case k => k_is)
    case D__law_tap =>
      refine' Mk.def_mk KX G ?a ?l ?c ?k (fun F => F.binds (ps := ["keg", "total"]) fun _ _ _ _ _ _ us hl => match us, hl with | [_, _], _ => rfl)
      (case a => k_is); (case l => k_is); (case c => k_is); (case k => k_is)
    case D__law_choices =>
      refine' Mk.def_mk KX G ?a ?l ?c ?k (fun F => F.binds (ps := ["keg", "items", "count"]) fun _ _ _ _ _ _ us hl => match us, hl with | [_, _, _], _ => rfl)
      (case a => k_is); (case l => k_is); (case c => k_is); (case k => k_is)
    case D__law_points_drawn =>
      refine' Mk.def_mk KX G ?a ?l ?c ?k (fun F => F.binds (ps := ["keg", "count"]) fun _ _ _ _ _ _ us hl => match us, hl with | [_, _], _ => rfl)
      (case a => k_is); (case l => k_is); (case c => k_is); (case k => k_is)
    case D__law_choice =>
      refine' Mk.def_mk KX G ?a ?l ?c ?k (fun F => F.binds (ps := ["keg", "items"]) fun _ _ _ _ _ _ us hl => match us, hl with | [_, _], _ => rfl)
      (case a => k_is); (case l => k_is); (case c => k_is); (case k => k_is)
    case D__law_points_in =>
      refine' Mk.def_mk KX G ?a ?l ?c ?k (fun F => F.binds (ps := ["differences"]) fun _ _ _ _ _ _ us hl => match us, hl with | [_], _ => rfl)
      (case a => k_is); (case l => k_is); (case c => k_is); (case k => k_is)
    case D__law_tried =>
      refine' Mk.def_mk KX G ?a ?l ?c ?k (fun F => F.binds (ps := ["points", "most"]) fun _ _ _ _ _ _ us hl => match us, hl with | [_, _], _ => rfl)
      (case a => k_is); (case l => k_is); (case c => k_is); (case k => k_is)
    case D__law_are_true =>
      refine' Mk.def_mk KX G ?a ?l ?c ?k (fun F => F.binds (ps := ["differences", "numbers"]) fun _ _ _ _ _ _ us hl => match us, hl with | [_, _], _ => rfl)
      (case a => k_is); (case l => k_is); (case c => k_is); (case k => k_is)
    case D__law_is_near =>
      refine' Mk.def_mk KX G ?a ?l ?c ?k (fun F => F.binds (ps := ["names", "most", "told"]) fun _ _ _ _ _ _ us hl => match us, hl with | [_, _, _], _ => rfl)
      (case a => k_is); (case l => k_is); (case c => k_is); (case k => k_is)
    case D__law_bound_right =>
      refine' Mk.def_mk KX G ?a ?l ?c ?k (fun F => F.binds (ps := ["differences", "one", "other", "told"]) fun _ _ _ _ _ _ us hl => match us, hl with | [_, _, _, _], _ => rfl)
      (case a => k_is); (case l => k_is); (case c => k_is); (case k => k_is)
    case D__law_right =>
      refine' Mk.def_mk KX G ?a ?l ?c ?k (fun F => F.binds (ps := ["keg", "points", "differences"]) fun _ _ _ _ _ _ us hl => match us, hl with | [_, _, _], _ => rfl)
      (case a => k_is); (case l => k_is); (case c => k_is); (case k => k_is)
    case D__law_sums_right =>
      refine' Mk.def_mk KX G ?a ?l ?c ?k (fun F => F.binds (ps := ["differences"]) fun _ _ _ _ _ _ us hl => match us, hl with | [_], _ => rfl)
      (case a => k_is); (case l => k_is); (case c => k_is); (case k => k_is)
    case T =>
      refine' ⟨PySem.W.mg_none_of KX G ?b_abs, PySem.W.mg_none_of KX G ?b_all, PySem.W.mg_none_of KX G ?b_bool, PySem.W.mg_none_of KX G ?b_dict, PySem.W.mg_none_of KX G ?b_enumerate, PySem.W.mg_none_of KX G ?b_int, PySem.W.mg_none_of KX G ?b_isinstance, PySem.W.mg_none_of KX G ?b_iter, PySem.W.mg_none_of KX G ?b_len, PySem.W.mg_none_of KX G ?b_list, PySem.W.mg_none_of KX G ?b_max, PySem.W.mg_none_of KX G ?b_min, PySem.W.mg_none_of KX G ?b_next, PySem.W.mg_none_of KX G ?b_range, PySem.W.mg_none_of KX G ?b_sorted, PySem.W.mg_none_of KX G ?b_str, PySem.W.mg_none_of KX G ?b_tuple, Mk.int_mk KX G ?c_MAX_NAME, Mk.int_mk KX G ?c_GREATEST, Mk.str_mk KX G ?c_LETTERS, Mk.int_mk KX G ?c_MAX_DIFFERENCES, Mk.str_mk KX G ?c_ZERO, Mk.str_mk KX G ?c_NEW_MARK, Mk.str_mk KX G ?c_DIGITS⟩
      (case b_abs => k_is)
      (case b_all => k_is)
      (case b_bool => k_is)
      (case b_dict => k_is)
      (case b_enumerate => k_is)
      (case b_int => k_is)
      (case b_isinstance => k_is)
      (case b_iter => k_is)
      (case b_len => k_is)
      (case b_list => k_is)
      (case b_max => k_is)
      (case b_min => k_is)
      (case b_next => k_is)
      (case b_range => k_is)
      (case b_sorted => k_is)
      (case b_str => k_is)
      (case b_tuple => k_is)
      (case c_MAX_NAME => k_is)
      (case c_GREATEST => k_is)
      (case c_LETTERS => k_is)
      (case c_MAX_DIFFERENCES => k_is)
      (case c_ZERO => k_is)
      (case c_NEW_MARK => k_is)
      (case c_DIGITS => k_is)
