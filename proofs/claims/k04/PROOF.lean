import PyProof.Rows.All
import Wide.All
import OpenK.AllK
import Wide.FinOn
import KE.KStateDown
import HandS.ForMost
import KE.KDictKeyed
import KE.KDictWalk
import HandS.Deep
import HandS.TupAny
import HandS.IsInst
import HandS.FStr
import HandS.SortInts
import HandS.Defaults
import HandS.Wide
import HandS.Conv
import HandS.Style
import HandS.DictComp
import HandS.More
import HandS.Sort
import PySem.Challenge.RW_suresnap_k04_papers_are_checked_by_count
import HandS.WordsExc
import HandS.Head0
import HandS.Head1
import HandS.Head2
import HandS.HeadEnd
import HandS.HeadHook1
import HandS.HeadHook2
set_option Elab.async false
set_option linter.all false
set_option maxRecDepth 100000
set_option maxHeartbeats 0
/-! Vxd: dicts whose keys are of any kind together: whole numbers, texts, None, tuples of such. -/
namespace Vx
open PySem PySem.Spec

abbrev Ent := NestedKey × Value × Value
def entOf (w : World) (x : Ent) : DictEntry := ⟨x.1.hash w, x.2.1, x.2.2⟩
def findK (xs : List Ent) (k : NestedKey) : Option Ent := xs.find? fun x => decide (x.1 = k)
def putE (k : NestedKey) (v : Value) (x : Ent) : Ent := if x.1 = k then (x.1, x.2.1, v) else x
def storeE (xs : List Ent) (k : NestedKey) (kv v : Value) : List Ent := if (findK xs k).isSome = true then xs.map (putE k v) else xs ++ [(k, kv, v)]
/-- at d stands a dict of these entries -/
structure DictA (w : World) (h : Heap) (d : Addr) (xs : List Ent) : Prop where
  ob : ∃ o es ep, h.get? d = some o ∧ o.ExactDict ∧ o.data = .dict es ep ∧ es.toList = xs.map (entOf w)
  is : ∀ x ∈ xs, NestedIs h x.1 x.2.1 ∧ x.1.depth ≤ 8
  nd : (xs.map (·.1)).Nodup
section
variable {prog : Program} {w : World} {A : Around} {E : Value → Shared → Prop} {s : Shared} {d : Addr} {key : Value} {k : NestedKey} {xs : List Ent}
theorem keyEq {x : Ent} {Q : Bool → Shared → Prop} (hu : A.units + 8 < cLine) (hx : NestedIs s.heap x.1 x.2.1 ∧ x.1.depth ≤ 8) (hk : NestedIs s.heap k key) (q : Q (decide (x.1 = k)) s) : wpAny (model prog w) A (eqBool x.2.1 key) Q E s := by
  have := eqAt_key x.1 k A s x.2.1 key hx.1 hk (by have := hx.2; omega)
  refine this prog w E Q ?_
  rw [← NestedKey.decide_eq]
  exact q
theorem mayTell {stored : List Value} {Q : Bool → Shared → Prop} (hk : QuietAt prog w 8 s key) (hs : ∀ v ∈ stored, QuietAt prog w 8 s v) (h : Q false s) : wpAny (model prog w) A (tableMayTell key stored) Q E s := by
  unfold tableMayTell
  split
  · exact wpAny_pure h
  · refine wpAny_bind (hk A E _ ?_)
    simp only [Bool.not_true, Bool.false_eq_true, if_false]
    refine wpAny_bind ?_
    refine wpAny_forIn_list _ (fun rest r s' => s' = s ∧ r = (none, ()) ∧ ∀ v ∈ rest, QuietAt prog w 8 s v) _ ?_ ?_ _ _ ⟨rfl, rfl, hs⟩
    · rintro x rest r s' ⟨rfl, rfl, hr⟩
      refine wpAny_bind (hr x List.mem_cons_self A E _ ?_)
      simp only [Bool.not_true, Bool.false_eq_true, if_false]
      exact wpAny_pure ⟨rfl, rfl, fun v hv => hr v (List.mem_cons_of_mem _ hv)⟩
    · rintro r s' ⟨rfl, rfl, _⟩
      exact wpAny_pure h
theorem find_none {xs : List Ent} {k : NestedKey} (h : ∀ (i : Nat) (x : Ent), xs[i]? = some x → x.1 ≠ k) : findK xs k = none := by
  unfold findK
  rw [List.find?_eq_none]
  intro x hx
  obtain ⟨i, hi⟩ := List.mem_iff_getElem?.mp hx
  simpa using h i x hi
theorem find_some {xs : List Ent} {k : NestedKey} (nd : (xs.map (·.1)).Nodup) {i : Nat} {x : Ent} (h : xs[i]? = some x) (e : x.1 = k) : findK xs k = some x := by
  induction xs generalizing i with
  | nil => simp at h
  | cons y ys ih =>
    rw [List.map_cons, List.nodup_cons] at nd
    unfold findK
    rw [List.find?_cons]
    cases i with
    | zero => simp at h; subst h; simp [e]
    | succ i =>
      have h' : ys[i]? = some x := by simpa using h
      have : y.1 ≠ k := fun z => nd.1 (List.mem_map.mpr ⟨x, List.mem_of_getElem? h', by rw [e, z]⟩)
      simp only [this, decide_false]
      exact ih nd.2 h'
theorem one_place {xs : List Ent} {k : NestedKey} (nd : (xs.map (·.1)).Nodup) {i j : Nat} {x y : Ent} (h : xs[i]? = some x) (h' : xs[j]? = some y) (e : x.1 = k) (e' : y.1 = k) : i = j := by
  have h1 : (xs.map (·.1))[i]? = some k := by rw [List.getElem?_map, h]; exact congrArg some e
  have h2 : (xs.map (·.1))[j]? = some k := by rw [List.getElem?_map, h']; exact congrArg some e'
  exact (List.getElem?_inj (List.getElem?_eq_some_iff.mp h1).1 nd).mp (h1.trans h2.symm)
/-- a look-up: the place of the entry with this key -/
theorem any_find {o : Obj} {es : Array DictEntry} {ep : Nat} {Q : Option Nat → Shared → Prop} (hu : A.units + 8 < cLine) (hkey : NestedIs s.heap k key) (hd8 : k.depth ≤ 8) (ho : s.heap.get? d = some o) (hd : o.data = .dict es ep) (he : es.toList = xs.map (entOf w))
    (his : ∀ x ∈ xs, NestedIs s.heap x.1 x.2.1 ∧ x.1.depth ≤ 8) (nd : (xs.map (·.1)).Nodup) (hnone : (∀ (i : Nat) (x : Ent), xs[i]? = some x → x.1 ≠ k) → Q none s) (hsome : ∀ (i : Nat) (x : Ent), xs[i]? = some x → x.1 = k → Q (some i) s) :
    wpAny (model prog w) A (dictFind d key (k.hash w)) Q E s := by
  have at_ : ∀ i : Nat, es[i]? = (xs[i]?).map (entOf w) := fun i => by rw [← Array.getElem?_toList, he, List.getElem?_map]
  have sz : es.size = xs.length := by rw [← Array.length_toList, he, List.length_map]
  have get : ∀ i, i < es.size → ∃ x, xs[i]? = some x ∧ es[i]? = some (entOf w x) ∧ (NestedIs s.heap x.1 x.2.1 ∧ x.1.depth ≤ 8) := fun i hi => by
    have h1 : i < xs.length := by omega
    refine ⟨xs[i], List.getElem?_eq_getElem h1, by rw [at_, List.getElem?_eq_getElem h1]; rfl, his _ (List.getElem_mem h1)⟩
  -- the places to be looked at
  have pl : ∀ i, i ∈ placesWithHash es.size (fun i => es[i]?.map (·.hash)) (k.hash w) ↔ ∃ x, xs[i]? = some x ∧ x.1.hash w = k.hash w := fun i => by
    unfold placesWithHash
    rw [List.mem_filter, List.mem_range]
    constructor
    · rintro ⟨hi, hq⟩
      obtain ⟨x, e1, e2, _⟩ := get i hi
      have hq' : ((es[i]?.map (·.hash)) == some (k.hash w)) = true := hq
      rw [e2] at hq'
      exact ⟨x, e1, by simpa [entOf] using hq'⟩
    · rintro ⟨x, e1, e2⟩
      have hi : i < es.size := by rw [sz]; exact (List.getElem?_eq_some_iff.mp e1).1
      refine ⟨hi, ?_⟩
      show ((es[i]?.map (·.hash)) == some (k.hash w)) = true
      rw [at_, e1]
      simp [entOf, e2]
  have fin0 : (∀ i ∈ placesWithHash es.size (fun i => es[i]?.map (·.hash)) (k.hash w), ∀ x, xs[i]? = some x → x.1 ≠ k) → Q none s := fun h => hnone fun i x e z => h i ((pl i).mpr ⟨x, e, by rw [z]⟩) x e z
  have plain : wpAny (model prog w) A (dictWalkPlain d key (k.hash w) es (placesWithHash es.size (fun i => es[i]?.map (·.hash)) (k.hash w))) Q E s := by
    refine wpAny_bind ?_
    refine wpAny_forIn_list _ (fun rest b s' => s' = s ∧ b = (none, ()) ∧ (∀ i ∈ rest, i ∈ placesWithHash es.size (fun i => es[i]?.map (·.hash)) (k.hash w)) ∧ ∀ i ∈ placesWithHash es.size (fun i => es[i]?.map (·.hash)) (k.hash w), i ∉ rest → ∀ x, xs[i]? = some x → x.1 ≠ k) _ ?_ ?_ _ _ ⟨rfl, rfl, fun _ h => h, fun i h n => absurd h n⟩
    · rintro i rest b s' ⟨rfl, rfl, hr, hn⟩
      obtain ⟨x, e1, e2⟩ := (pl i).mp (hr i (List.mem_cons_self ..))
      have hx := his x (List.mem_of_getElem? e1)
      have e3 : es[i]? = some (entOf w x) := by rw [at_, e1]; rfl
      rw [e3]
      dsimp only
      have hh : ((entOf w x).hash == k.hash w) = true := by simp [entOf, e2]
      rw [if_pos hh]
      refine wpAny_bind (wpAny_dictEpoch ho hd (wpAny_bind (keyEq hu hx hkey (wpAny_bind (wpAny_dictEpoch ho hd ?_)))))
      show wpAny _ _ (if (ep != ep) = true then _ else _) _ E _
      rw [if_neg (by simp)]
      by_cases hk : x.1 = k
      · rw [decide_eq_true hk]
        exact wpAny_bind (wpAny_rule (wpAny_pure (wpAny_pure (hsome i x e1 hk))))
      · rw [decide_eq_false hk]
        refine wpAny_bind (wpAny_rule (wpAny_pure ⟨rfl, rfl, fun j hj => hr j (List.mem_cons_of_mem _ hj), fun j hj nj y ey => ?_⟩))
        by_cases hji : j = i
        · subst hji
          rw [e1] at ey; cases ey
          exact hk
        · exact hn j hj (by simp [hji, nj]) y ey
    · rintro b s' ⟨rfl, rfl, hr, hn⟩
      exact wpAny_pure (fin0 fun i hi => hn i hi (by simp))
  have quiet : ∀ v : Value, (∃ x : Ent, NestedIs s.heap x.1 v ∧ x.1.depth ≤ 8) → QuietAt prog w 8 s v := fun v ⟨x, hx, h8⟩ => quiet_key x.1 v 8 s hx h8
  unfold dictFind
  try with_reducible refine wpAny_holding ?_
  refine wpAny_bind (wpAny_dictEntries ho hd ?_)
  have hst : ∀ v ∈ (placesWithHash es.size (fun i => es[i]?.map (·.hash)) (k.hash w)).filterMap (fun i => es[i]?.map (·.key)), QuietAt prog w 8 s v := by
    intro v hv
    obtain ⟨i, _, hi⟩ := List.mem_filterMap.mp hv
    cases hei : es[i]? with
    | none => rw [hei] at hi; cases hi
    | some e =>
      rw [hei] at hi
      obtain rfl : e.key = v := by simpa using hi
      rw [at_] at hei
      cases hx : xs[i]? with
      | none => rw [hx] at hei; cases hei
      | some x =>
        rw [hx] at hei
        cases hei
        exact quiet _ ⟨x, his x (List.mem_of_getElem? hx)⟩
  have hq0 : QuietAt prog w 8 s key := quiet_key k key 8 s hkey hd8
  have hk0 := hkey
  cases hkey with
  | none =>
    generalize hke : NestedKey.none = k0 at *
    dsimp only
    by_cases hall : ((Value.none :: (placesWithHash es.size (fun i => es[i]?.map (·.hash)) (k0.hash w)).filterMap fun i => es[i]?.map (·.key)).all carriedByValue) = true
    · rw [if_pos hall]; exact plain
    · rw [if_neg hall]
      by_cases hone : (((placesWithHash es.size (fun i => es[i]?.map (·.hash)) (k0.hash w)).filterMap (fun i => es[i]?.map (·.key))) == [Value.none]) = true <;>
      (first | rw [if_pos hone] | rw [if_neg hone]) <;> (first | refine wpAny_bind (wpAny_pure ?_) | refine wpAny_bind (mayTell hq0 hst ?_)) <;> (
      rw [if_neg (by simp)]
      refine wpAny_bind ?_
      refine wpAny_forIn_list _ (fun rest b s' => s' = s ∧ ∃ hit, b = (none, hit) ∧ (∀ i ∈ rest, i ∈ placesWithHash es.size (fun i => es[i]?.map (·.hash)) (k0.hash w)) ∧ rest.Nodup ∧ ((hit = none ∧ ∀ i ∈ placesWithHash es.size (fun i => es[i]?.map (·.hash)) (k0.hash w), i ∉ rest → ∀ x, xs[i]? = some x → x.1 ≠ k0) ∨ ∃ j x, hit = some j ∧ j ∉ rest ∧ xs[j]? = some x ∧ x.1 = k0)) _ ?_ ?_ _ _
        ⟨rfl, none, rfl, fun _ h => h, List.Nodup.sublist List.filter_sublist List.nodup_range, .inl ⟨rfl, fun i h n => absurd h n⟩⟩
      · rintro i rest b s' ⟨rfl, hit, rfl, hr, hnd, hH⟩
        obtain ⟨hni, hnd'⟩ := List.nodup_cons.mp hnd
        obtain ⟨x, e1, e2⟩ := (pl i).mp (hr i (List.mem_cons_self ..))
        have hx := his x (List.mem_of_getElem? e1)
        have e3 : es[i]? = some (entOf w x) := by rw [at_, e1]; rfl
        rw [e3]
        dsimp only
        have hh : ((entOf w x).hash == k0.hash w) = true := by simp [entOf, e2]
        rw [if_pos hh]
        refine wpAny_bind (wpAny_dictEpoch ho hd (wpAny_bind (keyEq hu hx hk0 (wpAny_bind (wpAny_dictEpoch ho hd ?_)))))
        rw [if_neg (show ¬ (ep != ep) = true by simp)]
        by_cases hk : x.1 = k0
        · rw [decide_eq_true hk]
          have hnone' : hit = none := by
            rcases hH with ⟨e, _⟩ | ⟨j, y, e, nj, ey, eyk⟩
            · exact e
            · have : j = i := one_place nd ey e1 eyk hk
              subst this
              exact absurd (List.mem_cons_self ..) nj
          subst hnone'
          first | rw [if_pos rfl] | skip
          simp only [Option.isSome_none, Bool.false_eq_true, if_false]
          first | refine wpAny_bind (wpAny_pure ?_) | skip
          refine wpAny_bind (wpAny_rule ?_)
          split
          · exact wpAny_pure (wpAny_pure (hsome i x e1 hk))
          · exact wpAny_pure ⟨rfl, some i, rfl, fun j hj => hr j (List.mem_cons_of_mem _ hj), hnd', .inr ⟨i, x, rfl, hni, e1, hk⟩⟩
        · rw [decide_eq_false hk]
          simp only [Bool.false_eq_true, if_false]
          have nx : (hit = none ∧ ∀ i ∈ placesWithHash es.size (fun i => es[i]?.map (·.hash)) (k0.hash w), i ∉ rest → ∀ x, xs[i]? = some x → x.1 ≠ k0) ∨ ∃ j x, hit = some j ∧ j ∉ rest ∧ xs[j]? = some x ∧ x.1 = k0 := by
            rcases hH with ⟨e, hn⟩ | ⟨j, y, e, nj, ey, eyk⟩
            · refine .inl ⟨e, fun j hj nj y ey => ?_⟩
              by_cases hji : j = i
              · subst hji
                rw [e1] at ey; cases ey
                exact hk
              · exact hn j hj (by simp [hji, nj]) y ey
            · exact .inr ⟨j, y, e, fun z => nj (List.mem_cons_of_mem _ z), ey, eyk⟩
          refine wpAny_bind (wpAny_rule ?_)
          first | rw [if_neg (by simp)] | skip
          first
            | exact wpAny_pure ⟨rfl, hit, rfl, fun j hj => hr j (List.mem_cons_of_mem _ hj), hnd', nx⟩
            | exact wpAny_bind (wpAny_pure (wpAny_pure ⟨rfl, hit, rfl, fun j hj => hr j (List.mem_cons_of_mem _ hj), hnd', nx⟩))
      · rintro b s' ⟨rfl, hit, rfl, hr, hnd, hH⟩
        rcases hH with ⟨rfl, hn⟩ | ⟨j, x, rfl, _, ex, exk⟩
        · exact wpAny_pure (fin0 fun i hi => hn i hi (by simp))
        · exact wpAny_pure (hsome j x ex exk))
  | @bool b i hb =>
    generalize hke : NestedKey.num i = k0 at *
    dsimp only
    by_cases hall : ((Value.bool b :: (placesWithHash es.size (fun i => es[i]?.map (·.hash)) (k0.hash w)).filterMap fun i => es[i]?.map (·.key)).all carriedByValue) = true
    · rw [if_pos hall]; exact plain
    · rw [if_neg hall]
      by_cases hone : (((placesWithHash es.size (fun i => es[i]?.map (·.hash)) (k0.hash w)).filterMap (fun i => es[i]?.map (·.key))) == [Value.bool b]) = true <;>
      (first | rw [if_pos hone] | rw [if_neg hone]) <;> (first | refine wpAny_bind (wpAny_pure ?_) | refine wpAny_bind (mayTell hq0 hst ?_)) <;> (
      rw [if_neg (by simp)]
      refine wpAny_bind ?_
      refine wpAny_forIn_list _ (fun rest b s' => s' = s ∧ ∃ hit, b = (none, hit) ∧ (∀ i ∈ rest, i ∈ placesWithHash es.size (fun i => es[i]?.map (·.hash)) (k0.hash w)) ∧ rest.Nodup ∧ ((hit = none ∧ ∀ i ∈ placesWithHash es.size (fun i => es[i]?.map (·.hash)) (k0.hash w), i ∉ rest → ∀ x, xs[i]? = some x → x.1 ≠ k0) ∨ ∃ j x, hit = some j ∧ j ∉ rest ∧ xs[j]? = some x ∧ x.1 = k0)) _ ?_ ?_ _ _
        ⟨rfl, none, rfl, fun _ h => h, List.Nodup.sublist List.filter_sublist List.nodup_range, .inl ⟨rfl, fun i h n => absurd h n⟩⟩
      · rintro i rest b s' ⟨rfl, hit, rfl, hr, hnd, hH⟩
        obtain ⟨hni, hnd'⟩ := List.nodup_cons.mp hnd
        obtain ⟨x, e1, e2⟩ := (pl i).mp (hr i (List.mem_cons_self ..))
        have hx := his x (List.mem_of_getElem? e1)
        have e3 : es[i]? = some (entOf w x) := by rw [at_, e1]; rfl
        rw [e3]
        dsimp only
        have hh : ((entOf w x).hash == k0.hash w) = true := by simp [entOf, e2]
        rw [if_pos hh]
        refine wpAny_bind (wpAny_dictEpoch ho hd (wpAny_bind (keyEq hu hx hk0 (wpAny_bind (wpAny_dictEpoch ho hd ?_)))))
        rw [if_neg (show ¬ (ep != ep) = true by simp)]
        by_cases hk : x.1 = k0
        · rw [decide_eq_true hk]
          have hnone' : hit = none := by
            rcases hH with ⟨e, _⟩ | ⟨j, y, e, nj, ey, eyk⟩
            · exact e
            · have : j = i := one_place nd ey e1 eyk hk
              subst this
              exact absurd (List.mem_cons_self ..) nj
          subst hnone'
          first | rw [if_pos rfl] | skip
          simp only [Option.isSome_none, Bool.false_eq_true, if_false]
          first | refine wpAny_bind (wpAny_pure ?_) | skip
          refine wpAny_bind (wpAny_rule ?_)
          split
          · exact wpAny_pure (wpAny_pure (hsome i x e1 hk))
          · exact wpAny_pure ⟨rfl, some i, rfl, fun j hj => hr j (List.mem_cons_of_mem _ hj), hnd', .inr ⟨i, x, rfl, hni, e1, hk⟩⟩
        · rw [decide_eq_false hk]
          simp only [Bool.false_eq_true, if_false]
          have nx : (hit = none ∧ ∀ i ∈ placesWithHash es.size (fun i => es[i]?.map (·.hash)) (k0.hash w), i ∉ rest → ∀ x, xs[i]? = some x → x.1 ≠ k0) ∨ ∃ j x, hit = some j ∧ j ∉ rest ∧ xs[j]? = some x ∧ x.1 = k0 := by
            rcases hH with ⟨e, hn⟩ | ⟨j, y, e, nj, ey, eyk⟩
            · refine .inl ⟨e, fun j hj nj y ey => ?_⟩
              by_cases hji : j = i
              · subst hji
                rw [e1] at ey; cases ey
                exact hk
              · exact hn j hj (by simp [hji, nj]) y ey
            · exact .inr ⟨j, y, e, fun z => nj (List.mem_cons_of_mem _ z), ey, eyk⟩
          refine wpAny_bind (wpAny_rule ?_)
          first | rw [if_neg (by simp)] | skip
          first
            | exact wpAny_pure ⟨rfl, hit, rfl, fun j hj => hr j (List.mem_cons_of_mem _ hj), hnd', nx⟩
            | exact wpAny_bind (wpAny_pure (wpAny_pure ⟨rfl, hit, rfl, fun j hj => hr j (List.mem_cons_of_mem _ hj), hnd', nx⟩))
      · rintro b s' ⟨rfl, hit, rfl, hr, hnd, hH⟩
        rcases hH with ⟨rfl, hn⟩ | ⟨j, x, rfl, _, ex, exk⟩
        · exact wpAny_pure (fin0 fun i hi => hn i hi (by simp))
        · exact wpAny_pure (hsome j x ex exk))
  | int i t =>
    generalize hke : NestedKey.num i = k0 at *
    dsimp only
    by_cases hall : ((Value.int i t :: (placesWithHash es.size (fun i => es[i]?.map (·.hash)) (k0.hash w)).filterMap fun i => es[i]?.map (·.key)).all carriedByValue) = true
    · rw [if_pos hall]; exact plain
    · rw [if_neg hall]
      by_cases hone : (((placesWithHash es.size (fun i => es[i]?.map (·.hash)) (k0.hash w)).filterMap (fun i => es[i]?.map (·.key))) == [Value.int i t]) = true <;>
      (first | rw [if_pos hone] | rw [if_neg hone]) <;> (first | refine wpAny_bind (wpAny_pure ?_) | refine wpAny_bind (mayTell hq0 hst ?_)) <;> (
      rw [if_neg (by simp)]
      refine wpAny_bind ?_
      refine wpAny_forIn_list _ (fun rest b s' => s' = s ∧ ∃ hit, b = (none, hit) ∧ (∀ i ∈ rest, i ∈ placesWithHash es.size (fun i => es[i]?.map (·.hash)) (k0.hash w)) ∧ rest.Nodup ∧ ((hit = none ∧ ∀ i ∈ placesWithHash es.size (fun i => es[i]?.map (·.hash)) (k0.hash w), i ∉ rest → ∀ x, xs[i]? = some x → x.1 ≠ k0) ∨ ∃ j x, hit = some j ∧ j ∉ rest ∧ xs[j]? = some x ∧ x.1 = k0)) _ ?_ ?_ _ _
        ⟨rfl, none, rfl, fun _ h => h, List.Nodup.sublist List.filter_sublist List.nodup_range, .inl ⟨rfl, fun i h n => absurd h n⟩⟩
      · rintro i rest b s' ⟨rfl, hit, rfl, hr, hnd, hH⟩
        obtain ⟨hni, hnd'⟩ := List.nodup_cons.mp hnd
        obtain ⟨x, e1, e2⟩ := (pl i).mp (hr i (List.mem_cons_self ..))
        have hx := his x (List.mem_of_getElem? e1)
        have e3 : es[i]? = some (entOf w x) := by rw [at_, e1]; rfl
        rw [e3]
        dsimp only
        have hh : ((entOf w x).hash == k0.hash w) = true := by simp [entOf, e2]
        rw [if_pos hh]
        refine wpAny_bind (wpAny_dictEpoch ho hd (wpAny_bind (keyEq hu hx hk0 (wpAny_bind (wpAny_dictEpoch ho hd ?_)))))
        rw [if_neg (show ¬ (ep != ep) = true by simp)]
        by_cases hk : x.1 = k0
        · rw [decide_eq_true hk]
          have hnone' : hit = none := by
            rcases hH with ⟨e, _⟩ | ⟨j, y, e, nj, ey, eyk⟩
            · exact e
            · have : j = i := one_place nd ey e1 eyk hk
              subst this
              exact absurd (List.mem_cons_self ..) nj
          subst hnone'
          first | rw [if_pos rfl] | skip
          simp only [Option.isSome_none, Bool.false_eq_true, if_false]
          first | refine wpAny_bind (wpAny_pure ?_) | skip
          refine wpAny_bind (wpAny_rule ?_)
          split
          · exact wpAny_pure (wpAny_pure (hsome i x e1 hk))
          · exact wpAny_pure ⟨rfl, some i, rfl, fun j hj => hr j (List.mem_cons_of_mem _ hj), hnd', .inr ⟨i, x, rfl, hni, e1, hk⟩⟩
        · rw [decide_eq_false hk]
          simp only [Bool.false_eq_true, if_false]
          have nx : (hit = none ∧ ∀ i ∈ placesWithHash es.size (fun i => es[i]?.map (·.hash)) (k0.hash w), i ∉ rest → ∀ x, xs[i]? = some x → x.1 ≠ k0) ∨ ∃ j x, hit = some j ∧ j ∉ rest ∧ xs[j]? = some x ∧ x.1 = k0 := by
            rcases hH with ⟨e, hn⟩ | ⟨j, y, e, nj, ey, eyk⟩
            · refine .inl ⟨e, fun j hj nj y ey => ?_⟩
              by_cases hji : j = i
              · subst hji
                rw [e1] at ey; cases ey
                exact hk
              · exact hn j hj (by simp [hji, nj]) y ey
            · exact .inr ⟨j, y, e, fun z => nj (List.mem_cons_of_mem _ z), ey, eyk⟩
          refine wpAny_bind (wpAny_rule ?_)
          first | rw [if_neg (by simp)] | skip
          first
            | exact wpAny_pure ⟨rfl, hit, rfl, fun j hj => hr j (List.mem_cons_of_mem _ hj), hnd', nx⟩
            | exact wpAny_bind (wpAny_pure (wpAny_pure ⟨rfl, hit, rfl, fun j hj => hr j (List.mem_cons_of_mem _ hj), hnd', nx⟩))
      · rintro b s' ⟨rfl, hit, rfl, hr, hnd, hH⟩
        rcases hH with ⟨rfl, hn⟩ | ⟨j, x, rfl, _, ex, exk⟩
        · exact wpAny_pure (fin0 fun i hi => hn i hi (by simp))
        · exact wpAny_pure (hsome j x ex exk))
  | text y t =>
    generalize hke : NestedKey.text y = k0 at *
    dsimp only
    by_cases hx : (es.all fun e => isExactStrKey e.key) = true
    · rw [if_pos hx]
      unfold foundByValue
      cases hf : es.findIdx? (fun e => e.key.isStr y) with
      | none =>
        refine wpAny_pure (hnone fun i x e z => ?_)
        subst z
        have e3 : es[i]? = some (entOf w x) := by rw [at_, e]; rfl
        have hx1 := (his x (List.mem_of_getElem? e)).1
        have := (Array.findIdx?_eq_none_iff.mp hf) _ (Array.mem_of_getElem? e3)
        rw [← hke] at hx1
        obtain ⟨x1, x2, x3⟩ := x
        cases hx1
        simp [entOf, Value.isStr] at this
      | some i =>
        obtain ⟨hlt, hi, _⟩ := Array.findIdx?_eq_some_iff_getElem.mp hf
        obtain ⟨x, e1, e3, hx8⟩ := get i hlt
        have hge : es[i] = entOf w x := by rw [Array.getElem?_eq_getElem hlt] at e3; exact Option.some.inj e3
        simp only [e3]
        have hxk : x.1 = k0 := by
          rw [hge] at hi
          obtain ⟨x1, x2, x3⟩ := x
          have hx1 := hx8.1
          cases x2 <;> simp [entOf, Value.isStr] at hi
          subst hi
          cases hx1
          exact hke
        refine wpAny_bind (wpAny_dictEpoch ho hd (wpAny_bind (keyEq hu hx8 hk0 (wpAny_bind (wpAny_dictEpoch ho hd ?_)))))
        rw [if_neg (show ¬ (ep != ep) = true by simp), decide_eq_true hxk, if_pos rfl]
        exact wpAny_bind (wpAny_rule (wpAny_pure (hsome i x e1 hxk)))
    rw [if_neg hx]
    by_cases hall : ((Value.str y t :: (placesWithHash es.size (fun i => es[i]?.map (·.hash)) (k0.hash w)).filterMap fun i => es[i]?.map (·.key)).all carriedByValue) = true
    · rw [if_pos hall]; exact plain
    · rw [if_neg hall]
      by_cases hone : (((placesWithHash es.size (fun i => es[i]?.map (·.hash)) (k0.hash w)).filterMap (fun i => es[i]?.map (·.key))) == [Value.str y t]) = true <;>
      (first | rw [if_pos hone] | rw [if_neg hone]) <;> (first | refine wpAny_bind (wpAny_pure ?_) | refine wpAny_bind (mayTell hq0 hst ?_)) <;> (
      rw [if_neg (by simp)]
      refine wpAny_bind ?_
      refine wpAny_forIn_list _ (fun rest b s' => s' = s ∧ ∃ hit, b = (none, hit) ∧ (∀ i ∈ rest, i ∈ placesWithHash es.size (fun i => es[i]?.map (·.hash)) (k0.hash w)) ∧ rest.Nodup ∧ ((hit = none ∧ ∀ i ∈ placesWithHash es.size (fun i => es[i]?.map (·.hash)) (k0.hash w), i ∉ rest → ∀ x, xs[i]? = some x → x.1 ≠ k0) ∨ ∃ j x, hit = some j ∧ j ∉ rest ∧ xs[j]? = some x ∧ x.1 = k0)) _ ?_ ?_ _ _
        ⟨rfl, none, rfl, fun _ h => h, List.Nodup.sublist List.filter_sublist List.nodup_range, .inl ⟨rfl, fun i h n => absurd h n⟩⟩
      · rintro i rest b s' ⟨rfl, hit, rfl, hr, hnd, hH⟩
        obtain ⟨hni, hnd'⟩ := List.nodup_cons.mp hnd
        obtain ⟨x, e1, e2⟩ := (pl i).mp (hr i (List.mem_cons_self ..))
        have hx := his x (List.mem_of_getElem? e1)
        have e3 : es[i]? = some (entOf w x) := by rw [at_, e1]; rfl
        rw [e3]
        dsimp only
        have hh : ((entOf w x).hash == k0.hash w) = true := by simp [entOf, e2]
        rw [if_pos hh]
        refine wpAny_bind (wpAny_dictEpoch ho hd (wpAny_bind (keyEq hu hx hk0 (wpAny_bind (wpAny_dictEpoch ho hd ?_)))))
        rw [if_neg (show ¬ (ep != ep) = true by simp)]
        by_cases hk : x.1 = k0
        · rw [decide_eq_true hk]
          have hnone' : hit = none := by
            rcases hH with ⟨e, _⟩ | ⟨j, y, e, nj, ey, eyk⟩
            · exact e
            · have : j = i := one_place nd ey e1 eyk hk
              subst this
              exact absurd (List.mem_cons_self ..) nj
          subst hnone'
          first | rw [if_pos rfl] | skip
          simp only [Option.isSome_none, Bool.false_eq_true, if_false]
          first | refine wpAny_bind (wpAny_pure ?_) | skip
          refine wpAny_bind (wpAny_rule ?_)
          split
          · exact wpAny_pure (wpAny_pure (hsome i x e1 hk))
          · exact wpAny_pure ⟨rfl, some i, rfl, fun j hj => hr j (List.mem_cons_of_mem _ hj), hnd', .inr ⟨i, x, rfl, hni, e1, hk⟩⟩
        · rw [decide_eq_false hk]
          simp only [Bool.false_eq_true, if_false]
          have nx : (hit = none ∧ ∀ i ∈ placesWithHash es.size (fun i => es[i]?.map (·.hash)) (k0.hash w), i ∉ rest → ∀ x, xs[i]? = some x → x.1 ≠ k0) ∨ ∃ j x, hit = some j ∧ j ∉ rest ∧ xs[j]? = some x ∧ x.1 = k0 := by
            rcases hH with ⟨e, hn⟩ | ⟨j, y, e, nj, ey, eyk⟩
            · refine .inl ⟨e, fun j hj nj y ey => ?_⟩
              by_cases hji : j = i
              · subst hji
                rw [e1] at ey; cases ey
                exact hk
              · exact hn j hj (by simp [hji, nj]) y ey
            · exact .inr ⟨j, y, e, fun z => nj (List.mem_cons_of_mem _ z), ey, eyk⟩
          refine wpAny_bind (wpAny_rule ?_)
          first | rw [if_neg (by simp)] | skip
          first
            | exact wpAny_pure ⟨rfl, hit, rfl, fun j hj => hr j (List.mem_cons_of_mem _ hj), hnd', nx⟩
            | exact wpAny_bind (wpAny_pure (wpAny_pure ⟨rfl, hit, rfl, fun j hj => hr j (List.mem_cons_of_mem _ hj), hnd', nx⟩))
      · rintro b s' ⟨rfl, hit, rfl, hr, hnd, hH⟩
        rcases hH with ⟨rfl, hn⟩ | ⟨j, x, rfl, _, ex, exk⟩
        · exact wpAny_pure (fin0 fun i hi => hn i hi (by simp))
        · exact wpAny_pure (hsome j x ex exk))
  | @tup a o' vs n ks h1 h2 h3 h4 =>
    generalize hke : NestedKey.tup ks = k0 at *
    dsimp only
    by_cases hall : ((Value.ref a :: (placesWithHash es.size (fun i => es[i]?.map (·.hash)) (k0.hash w)).filterMap fun i => es[i]?.map (·.key)).all carriedByValue) = true
    · rw [if_pos hall]; exact plain
    · rw [if_neg hall]
      have hany : ¬ (es.any fun e => e.key == Value.ref a && e.hash != k0.hash w) = true := by
        rw [← Array.any_toList, List.any_eq_true]
        rintro ⟨e, hin, hc⟩
        obtain ⟨i, hi⟩ := List.mem_iff_getElem?.mp hin
        rw [he, List.getElem?_map] at hi
        cases hx : xs[i]? with
        | none => rw [hx] at hi; cases hi
        | some x =>
          rw [hx] at hi
          cases hi
          have hx1 := (his x (List.mem_of_getElem? hx)).1
          simp only [entOf, Bool.and_eq_true, beq_iff_eq, bne_iff_ne, ne_eq] at hc
          obtain ⟨hxa, hne⟩ := hc
          rw [hxa] at hx1
          exact hne (by rw [NestedIs.inj _ _ _ hx1 hk0])
      rw [if_neg hany]
      by_cases hone : (((placesWithHash es.size (fun i => es[i]?.map (·.hash)) (k0.hash w)).filterMap (fun i => es[i]?.map (·.key))) == [Value.ref a]) = true <;>
      (first | rw [if_pos hone] | rw [if_neg hone]) <;> (first | refine wpAny_bind (wpAny_pure ?_) | refine wpAny_bind (mayTell hq0 hst ?_)) <;> (
      rw [if_neg (by simp)]
      refine wpAny_bind ?_
      refine wpAny_forIn_list _ (fun rest b s' => s' = s ∧ ∃ hit, b = (none, hit) ∧ (∀ i ∈ rest, i ∈ placesWithHash es.size (fun i => es[i]?.map (·.hash)) (k0.hash w)) ∧ rest.Nodup ∧ ((hit = none ∧ ∀ i ∈ placesWithHash es.size (fun i => es[i]?.map (·.hash)) (k0.hash w), i ∉ rest → ∀ x, xs[i]? = some x → x.1 ≠ k0) ∨ ∃ j x, hit = some j ∧ j ∉ rest ∧ xs[j]? = some x ∧ x.1 = k0)) _ ?_ ?_ _ _
        ⟨rfl, none, rfl, fun _ h => h, List.Nodup.sublist List.filter_sublist List.nodup_range, .inl ⟨rfl, fun i h n => absurd h n⟩⟩
      · rintro i rest b s' ⟨rfl, hit, rfl, hr, hnd, hH⟩
        obtain ⟨hni, hnd'⟩ := List.nodup_cons.mp hnd
        obtain ⟨x, e1, e2⟩ := (pl i).mp (hr i (List.mem_cons_self ..))
        have hx := his x (List.mem_of_getElem? e1)
        have e3 : es[i]? = some (entOf w x) := by rw [at_, e1]; rfl
        rw [e3]
        dsimp only
        have hh : ((entOf w x).hash == k0.hash w) = true := by simp [entOf, e2]
        rw [if_pos hh]
        refine wpAny_bind (wpAny_dictEpoch ho hd (wpAny_bind (keyEq hu hx hk0 (wpAny_bind (wpAny_dictEpoch ho hd ?_)))))
        rw [if_neg (show ¬ (ep != ep) = true by simp)]
        by_cases hk : x.1 = k0
        · rw [decide_eq_true hk]
          have hnone' : hit = none := by
            rcases hH with ⟨e, _⟩ | ⟨j, y, e, nj, ey, eyk⟩
            · exact e
            · have : j = i := one_place nd ey e1 eyk hk
              subst this
              exact absurd (List.mem_cons_self ..) nj
          subst hnone'
          first | rw [if_pos rfl] | skip
          simp only [Option.isSome_none, Bool.false_eq_true, if_false]
          first | refine wpAny_bind (wpAny_pure ?_) | skip
          refine wpAny_bind (wpAny_rule ?_)
          split
          · exact wpAny_pure (wpAny_pure (hsome i x e1 hk))
          · exact wpAny_pure ⟨rfl, some i, rfl, fun j hj => hr j (List.mem_cons_of_mem _ hj), hnd', .inr ⟨i, x, rfl, hni, e1, hk⟩⟩
        · rw [decide_eq_false hk]
          simp only [Bool.false_eq_true, if_false]
          have nx : (hit = none ∧ ∀ i ∈ placesWithHash es.size (fun i => es[i]?.map (·.hash)) (k0.hash w), i ∉ rest → ∀ x, xs[i]? = some x → x.1 ≠ k0) ∨ ∃ j x, hit = some j ∧ j ∉ rest ∧ xs[j]? = some x ∧ x.1 = k0 := by
            rcases hH with ⟨e, hn⟩ | ⟨j, y, e, nj, ey, eyk⟩
            · refine .inl ⟨e, fun j hj nj y ey => ?_⟩
              by_cases hji : j = i
              · subst hji
                rw [e1] at ey; cases ey
                exact hk
              · exact hn j hj (by simp [hji, nj]) y ey
            · exact .inr ⟨j, y, e, fun z => nj (List.mem_cons_of_mem _ z), ey, eyk⟩
          refine wpAny_bind (wpAny_rule ?_)
          first | rw [if_neg (by simp)] | skip
          first
            | exact wpAny_pure ⟨rfl, hit, rfl, fun j hj => hr j (List.mem_cons_of_mem _ hj), hnd', nx⟩
            | exact wpAny_bind (wpAny_pure (wpAny_pure ⟨rfl, hit, rfl, fun j hj => hr j (List.mem_cons_of_mem _ hj), hnd', nx⟩))
      · rintro b s' ⟨rfl, hit, rfl, hr, hnd, hH⟩
        rcases hH with ⟨rfl, hn⟩ | ⟨j, x, rfl, _, ex, exk⟩
        · exact wpAny_pure (fin0 fun i hi => hn i hi (by simp))
        · exact wpAny_pure (hsome j x ex exk))
end
end Vx
/-! Vxd2: the operations of such dicts, over the bare heap. -/
namespace Vx
open PySem PySem.Spec

theorem find_eq {xs : List Ent} {k : NestedKey} {x : Ent} (h : findK xs k = some x) : x ∈ xs ∧ x.1 = k := by
  unfold findK at h
  exact ⟨List.mem_of_find?_eq_some h, by simpa using List.find?_some h⟩
theorem map_putE_keys (xs : List Ent) (k : NestedKey) (v : Value) : (xs.map (putE k v)).map (·.1) = xs.map (·.1) := by
  rw [List.map_map]
  refine List.map_congr_left fun x _ => ?_
  show (putE k v x).1 = x.1
  unfold putE
  split <;> rfl
theorem store_keys {xs : List Ent} {k : NestedKey} {kv v : Value} (nd : (xs.map (·.1)).Nodup) : ((storeE xs k kv v).map (·.1)).Nodup := by
  unfold storeE
  split
  · rw [map_putE_keys]; exact nd
  · rename_i h
    rw [List.map_append, List.nodup_append]
    refine ⟨nd, by simp, fun a ha b hb e => ?_⟩
    have hb' : b = k := by simpa using hb
    subst e
    subst hb'
    obtain ⟨x, hx, hxk⟩ := List.mem_map.mp ha
    refine h ?_
    unfold findK
    rw [List.find?_isSome]
    exact ⟨x, hx, by simpa using hxk⟩
theorem modify_entries {xs : List Ent} {k : NestedKey} {v : Value} {w : World} : ∀ {j : Nat} {x : Ent}, (xs.map (·.1)).Nodup → xs[j]? = some x → x.1 = k → (xs.map (entOf w)).modify j (fun e => { e with val := v }) = (xs.map (putE k v)).map (entOf w) := by
  induction xs with
  | nil => intro j x _ h; simp at h
  | cons y ys ih =>
    intro j x nd h e
    rw [List.map_cons, List.nodup_cons] at nd
    cases j with
    | zero =>
      have hy : y = x := by simpa using h
      subst hy
      have same : ys.map (putE k v) = ys := by
        refine (List.map_congr_left fun z hz => ?_).trans (List.map_id ys)
        unfold putE
        rw [if_neg fun q => nd.1 (List.mem_map.mpr ⟨z, hz, by rw [q, e]⟩)]
        rfl
      rw [List.map_cons, List.map_cons, same, List.map_cons]
      show { entOf w y with val := v } :: ys.map (entOf w) = _
      unfold putE
      rw [if_pos e]
      rfl
    | succ j =>
      have h' : ys[j]? = some x := by simpa using h
      have hy : ¬ y.1 = k := fun q => nd.1 (List.mem_map.mpr ⟨x, List.mem_of_getElem? h', by rw [e, q]⟩)
      rw [List.map_cons, List.map_cons, List.map_cons]
      have py : putE k v y = y := by unfold putE; rw [if_neg hy]
      rw [py]
      show entOf w y :: (ys.map (entOf w)).modify j _ = _
      rw [ih nd.2 h' e]
section
variable {prog : Program} {w : World} {A : Around} {E : Value → Shared → Prop} {s : Shared} {d : Addr} {key : Value} {k : NestedKey} {xs : List Ent}
theorem DictA.typeIs (h : DictA w s.heap d xs) : s.TypeIs (.ref d) "dict" := let ⟨o, _, _, ho, hc, _⟩ := h.ob; ⟨o, ho, hc.1⟩
theorem any_get {Q : Option Value → Shared → Prop} (hu : A.units + 8 < cLine) (hk : NestedIs s.heap k key) (h8 : k.depth ≤ 8) (m : DictA w s.heap d xs)
    (h : Q ((findK xs k).map (·.2.2)) { s with toks := s.toks + k.draws }) : wpAny (model prog w) A (dictGet d key) Q E s := by
  obtain ⟨o, es, ep, ho, hc, hd, he⟩ := m.ob
  unfold dictGet
  try with_reducible refine wpAny_holding ?_
  refine wpAny_bind (pyHash_key k key A s _ hk (by omega) (wpAny_bind (any_find (s := { s with toks := s.toks + k.draws }) hu hk h8 ho hd he m.is m.nd ?_ ?_)))
  · intro no
    rw [find_none no] at h
    exact wpAny_pure h
  · intro i x hx e
    rw [find_some m.nd hx e] at h
    refine wpAny_bind (wpAny_dictEntries (s := { s with toks := s.toks + k.draws }) ho hd ?_)
    have : es[i]? = some (entOf w x) := by rw [← Array.getElem?_toList, he, List.getElem?_map, hx]; rfl
    rw [this]
    exact wpAny_pure h
/-- the dict behind a store -/
theorem stored_of {o : Obj} {es : Array DictEntry} {ep : Nat} {v kv : Value} (m : DictA w s.heap d xs) (hk : NestedIs s.heap k kv) (h8 : k.depth ≤ 8) {h' : Heap} {o' : Obj} {ep' : Nat} {es' : Array DictEntry} (ho : s.heap.get? d = some o) (hd : o.data = .dict es ep) (sb : Heap.SameBut d s.heap h') (hg : h'.get? d = some o') (hx : o'.ExactDict) (hd' : o'.data = .dict es' ep')
    (he' : es'.toList = (storeE xs k kv v).map (entOf w)) : DictA w h' d (storeE xs k kv v) := by
  have keep : ∀ (y : NestedKey) (u : Value), NestedIs s.heap y u → NestedIs h' y u := fun y u q => q.at (fun a ob vs n e1 e2 => by
    have : a ≠ d := by
      rintro rfl
      rw [ho] at e1; cases e1
      rw [hd] at e2; cases e2
    exact (sb.2 a this).trans e1)
  refine ⟨⟨o', es', ep', hg, hx, hd', he'⟩, fun x hx => ?_, store_keys m.nd⟩
  unfold storeE at hx
  split at hx
  · obtain ⟨y, hy, rfl⟩ := List.mem_map.mp hx
    have := m.is y hy
    unfold putE
    split
    · exact ⟨keep _ _ this.1, this.2⟩
    · exact ⟨keep _ _ this.1, this.2⟩
  · rcases List.mem_append.mp hx with hx | hx
    · exact ⟨keep _ _ (m.is x hx).1, (m.is x hx).2⟩
    · obtain rfl : x = (k, kv, v) := by simpa using hx
      exact ⟨keep _ _ hk, h8⟩
theorem any_set {v : Value} {Q : Unit → Shared → Prop} (hu : A.units + 8 < cLine) (hk : NestedIs s.heap k key) (h8 : k.depth ≤ 8) (m : DictA w s.heap d xs) (hsz : xs.length ≤ sizeLine)
    (hQ : ∀ h', DictA w h' d (storeE xs k key v) → Heap.SameBut d s.heap h' → Q () { s with heap := h', toks := s.toks + k.draws }) : wpAny (model prog w) A (dictSet d key v) Q E s := by
  obtain ⟨o, es, ep, ho, hc, hd, he⟩ := m.ob
  have sz : es.size = xs.length := by rw [← Array.length_toList, he, List.length_map]
  unfold dictSet
  try with_reducible refine wpAny_holding ?_
  refine wpAny_bind (pyHash_key k key A s _ hk (by omega) ?_)
  unfold dictSetHashed
  try with_reducible refine wpAny_holding ?_
  refine wpAny_bind (any_find (s := { s with toks := s.toks + k.draws }) hu hk h8 ho hd he m.is m.nd ?_ ?_)
  · intro no
    refine wpAny_bind (wpAny_rule (wpAny_updateDictKeys (hz := by omega) (s := { s with toks := s.toks + k.draws }) ho hd (hQ _ (stored_of (o := o) m hk h8 ho hd (Heap.SameBut.update ..) (Heap.get?_update_self _ ho (Obj.isFreed_of_dict (Obj.data_mapDictKeys hd _))) (hc.mapDictKeys _) (Obj.data_mapDictKeys hd _) ?_) (Heap.SameBut.update ..))))
    unfold storeE
    rw [find_none no]
    simp [he, entOf]
  · intro i x hx e
    refine wpAny_bind (wpAny_rule (wpAny_bind (wpAny_updateDict (s := { s with toks := s.toks + k.draws }) ho hd (wpAny_point (hQ _ (stored_of (o := o) m hk h8 ho hd (Heap.SameBut.update ..) (Heap.get?_update_self _ ho (Obj.isFreed_of_dict (Obj.data_mapDict hd _))) (hc.mapDict _) (Obj.data_mapDict hd _) ?_) (Heap.SameBut.update ..))))))
    unfold storeE
    rw [find_some m.nd hx e, if_pos (show (some x).isSome = true from rfl), ← modify_entries m.nd hx e, ← he]
    obtain ⟨l⟩ := es
    simp
theorem any_setdef {dflt : Value} {Q : Value → Shared → Prop} (hu : A.units + 8 < cLine) (hk : NestedIs s.heap k key) (h8 : k.depth ≤ 8) (m : DictA w s.heap d xs) (hsz : xs.length ≤ sizeLine)
    (h1 : ∀ x, findK xs k = some x → Q x.2.2 { s with toks := s.toks + k.draws })
    (h2 : findK xs k = none → ∀ h', DictA w h' d (storeE xs k key dflt) → Heap.SameBut d s.heap h' → Q dflt { s with heap := h', toks := s.toks + k.draws }) : wpAny (model prog w) A (dictSetDefault d key dflt) Q E s := by
  obtain ⟨o, es, ep, ho, hc, hd, he⟩ := m.ob
  have sz : es.size = xs.length := by rw [← Array.length_toList, he, List.length_map]
  unfold dictSetDefault
  try with_reducible refine wpAny_holding ?_
  refine wpAny_bind (pyHash_key k key A s _ hk (by omega) ?_)
  refine wpAny_bind (any_find (s := { s with toks := s.toks + k.draws }) hu hk h8 ho hd he m.is m.nd ?_ ?_)
  · intro no
    refine wpAny_bind (wpAny_rule (wpAny_bind (wpAny_updateDictKeys (hz := by omega) (s := { s with toks := s.toks + k.draws }) ho hd (wpAny_pure (h2 (find_none no) _ (stored_of (o := o) m hk h8 ho hd (Heap.SameBut.update ..) (Heap.get?_update_self _ ho (Obj.isFreed_of_dict (Obj.data_mapDictKeys hd _))) (hc.mapDictKeys _) (Obj.data_mapDictKeys hd _) ?_) (Heap.SameBut.update ..))))))
    unfold storeE
    rw [find_none no]
    simp [he, entOf]
  · intro i x hx e
    refine wpAny_bind (wpAny_dictEntries (s := { s with toks := s.toks + k.draws }) ho hd ?_)
    have : es[i]? = some (entOf w x) := by rw [← Array.getElem?_toList, he, List.getElem?_map, hx]; rfl
    rw [this]
    exact wpAny_bind (wpAny_rule (wpAny_pure (h1 x (find_some m.nd hx e))))
/-! ### k in d, d[k], d[k] = v -/
theorem any_contains {Q : Bool → Shared → Prop} (hu : A.units + 9 < cLine) (hk : NestedIs s.heap k key) (h8 : k.depth ≤ 8) (hd : (d == sysModules) = false) (m : DictA w s.heap d xs)
    (h : Q (findK xs k).isSome { s with toks := s.toks + k.draws }) : wpAny (model prog w) A (contains (.ref d) key) Q E s := by
  refine wpAny_contains_slot m.typeIs F.slot_dict_contains ?_
  refine call_meetsIn F.slot_dict_contains m.typeIs F.entry_dict_contains (F.args_dict_contains_2 _ _) (S := fun A' R s' => A' = A ∧ s' = s ∧ R (.ok (.ret (.bool (findK xs k).isSome))) { s with toks := s.toks + k.draws }) (fun A' R s' hS => ?_) ⟨rfl, rfl, wpAny_truthy_bool h⟩
  obtain ⟨rfl, rfl, hq⟩ := hS
  show wpAny _ _ (dictGet d key >>= _) _ _ _
  refine wpAny_bind (any_get (by show A'.units + 1 + 8 < cLine; omega) hk h8 m ?_)
  cases hf : findK xs k with
  | some p =>
    rw [hf] at hq
    show wpAny _ _ (ret (.bool true)) _ _ _
    exact wpAny_pure hq
  | none =>
    rw [hf] at hq
    show wpAny _ _ (Builtin.Dict.pendingKey? d key >>= _) _ _ _
    exact wpAny_bind (wpAny_pendingKey_other hd (wpAny_pure hq))
theorem any_in {Q : Value → Shared → Prop} (hu : A.units + 9 < cLine) (hk : NestedIs s.heap k key) (h8 : k.depth ≤ 8) (hd : (d == sysModules) = false) (m : DictA w s.heap d xs)
    (h : Q (.bool (findK xs k).isSome) { s with toks := s.toks + k.draws }) : wpAny (model prog w) A (compareOp .In key (.ref d)) Q E s := by
  show wpAny _ _ (do return .bool (← contains (.ref d) key)) Q E s
  exact wpAny_bind (any_contains hu hk h8 hd m (wpAny_pure h))
theorem any_notIn {Q : Value → Shared → Prop} (hu : A.units + 9 < cLine) (hk : NestedIs s.heap k key) (h8 : k.depth ≤ 8) (hd : (d == sysModules) = false) (m : DictA w s.heap d xs)
    (h : Q (.bool (!(findK xs k).isSome)) { s with toks := s.toks + k.draws }) : wpAny (model prog w) A (compareOp .NotIn key (.ref d)) Q E s := by
  show wpAny _ _ (do return .bool (!(← contains (.ref d) key))) Q E s
  exact wpAny_bind (any_contains hu hk h8 hd m (wpAny_pure h))
theorem any_getItem {x : Ent} {Q : Value → Shared → Prop} (hu : A.units + 9 < cLine) (hk : NestedIs s.heap k key) (h8 : k.depth ≤ 8) (m : DictA w s.heap d xs) (hx : findK xs k = some x)
    (h : Q x.2.2 { s with toks := s.toks + k.draws }) : wpAny (model prog w) A (getItem (.ref d) key) Q E s := by
  unfold getItem
  try with_reducible refine wpAny_holding ?_
  refine wpAny_bind (wpAny_sequenceKey m.typeIs (by decide) ?_)
  refine wpAny_bind (wpAny_callSpecial?_slot (name := Str.ofString "__getitem__") m.typeIs slot_dict_getitem (wpAny_call_entry slot_dict_getitem m.typeIs entry_dict_getitem ?_ (args_dict_getitem _ _)))
  show wpAny _ _ (dictGet d key >>= _) _ _ s
  refine wpAny_bind (any_get (by show A.units + 1 + 8 < cLine; omega) hk h8 m ?_)
  rw [hx]
  exact wpAny_pure ⟨x.2.2, rfl, wpAny_pure h⟩
theorem any_setItem {v : Value} {Q : Unit → Shared → Prop} (hu : A.units + 9 < cLine) (hk : NestedIs s.heap k key) (h8 : k.depth ≤ 8) (m : DictA w s.heap d xs) (hsz : xs.length ≤ sizeLine)
    (hQ : ∀ h', DictA w h' d (storeE xs k key v) → Heap.SameBut d s.heap h' → Q () { s with heap := h', toks := s.toks + k.draws }) : wpAny (model prog w) A (setItem (.ref d) key v) Q E s := by
  unfold setItem
  try with_reducible refine wpAny_holding ?_
  refine wpAny_bind (wpAny_sequenceKey m.typeIs (by decide) ?_)
  refine wpAny_bind (wpAny_callSpecial?_slot (name := Str.ofString "__setitem__") m.typeIs slot_dict_setitem (wpAny_call_entry slot_dict_setitem m.typeIs entry_dict_setitem ?_ (args_dict_setitem _ _ _)))
  show wpAny _ _ (Builtin.Dict.notOrdered "__setitem__" ⟨[.ref d, key, v], []⟩ >>= _) _ _ s
  refine wpAny_bind (wpAny_notOrdered_dict m.typeIs ?_)
  show wpAny _ _ (dictSet d key v >>= _) _ _ s
  exact wpAny_bind (any_set (by show A.units + 1 + 8 < cLine; omega) hk h8 m hsz fun h' m' sb => wpAny_pure ⟨.none, rfl, wpAny_pure (hQ h' m' sb)⟩)
/-! ### d.get, d.setdefault -/
theorem meets_get1 (hd : (d == sysModules) = false) : MeetsIn prog w (Builtin.«dict.get» ⟨[.ref d, key], []⟩) (fun A R s => A.units + 9 < cLine ∧ ∃ k xs, NestedIs s.heap k key ∧ k.depth ≤ 8 ∧ DictA w s.heap d xs ∧
    R (.ok (.ret (((findK xs k).map (·.2.2)).getD .none))) { s with toks := s.toks + k.draws }) :=
  .of_wp fun A R s ⟨hu, k, xs, hk, h8, m, h⟩ => by
    show wpAny _ _ (dictGet d key >>= _) _ _ s
    refine wpAny_bind (any_get (by show A.units + 1 + 8 < cLine; omega) hk h8 m ?_)
    cases hf : findK xs k with
    | some v =>
      rw [hf] at h
      exact wpAny_pure ⟨v.2.2, rfl, h⟩
    | none =>
      rw [hf] at h
      show wpAny _ _ (Builtin.Dict.missed d key >>= _) _ _ _
      exact wpAny_bind (wpAny_missed_other hd (wpAny_pure ⟨.none, rfl, h⟩))
theorem meets_get2 (hd : (d == sysModules) = false) (dflt : Value) : MeetsIn prog w (Builtin.«dict.get» ⟨[.ref d, key, dflt], []⟩) (fun A R s => A.units + 9 < cLine ∧ ∃ k xs, NestedIs s.heap k key ∧ k.depth ≤ 8 ∧ DictA w s.heap d xs ∧
    R (.ok (.ret (((findK xs k).map (·.2.2)).getD dflt))) { s with toks := s.toks + k.draws }) :=
  .of_wp fun A R s ⟨hu, k, xs, hk, h8, m, h⟩ => by
    show wpAny _ _ (dictGet d key >>= _) _ _ s
    refine wpAny_bind (any_get (by show A.units + 1 + 8 < cLine; omega) hk h8 m ?_)
    cases hf : findK xs k with
    | some v =>
      rw [hf] at h
      exact wpAny_pure ⟨v.2.2, rfl, h⟩
    | none =>
      rw [hf] at h
      show wpAny _ _ (Builtin.Dict.missed d key >>= _) _ _ _
      exact wpAny_bind (wpAny_missed_other hd (wpAny_pure ⟨dflt, rfl, h⟩))
theorem meets_setdef (hd : (d == sysModules) = false) (dflt : Value) : MeetsIn prog w (Builtin.«dict.setdefault» ⟨[.ref d, key, dflt], []⟩) (fun A R s => A.units + 9 < cLine ∧ ∃ k xs, NestedIs s.heap k key ∧ k.depth ≤ 8 ∧ DictA w s.heap d xs ∧ xs.length ≤ sizeLine ∧
    (∀ x, findK xs k = some x → R (.ok (.ret x.2.2)) { s with toks := s.toks + k.draws }) ∧
    (findK xs k = none → ∀ h', DictA w h' d (storeE xs k key dflt) → Heap.SameBut d s.heap h' → R (.ok (.ret dflt)) { s with heap := h', toks := s.toks + k.draws })) :=
  .of_wp fun A R s ⟨hu, k, xs, hk, h8, m, hz, h1, h2⟩ => by
    unfold Builtin.«dict.setdefault»
    refine wpAny_bind ?_
    unfold Builtin.Dict.keyAndDefault
    refine wpAny_bind (wpAny_notOrdered_dict m.typeIs ?_)
    show wpAny _ _ (pure (d, key, some dflt)) _ _ s
    refine wpAny_pure ?_
    show wpAny _ _ (if (d == sysModules) = true then _ else (dictSetDefault d key dflt >>= _)) _ _ s
    rw [if_neg (by rw [hd]; exact Bool.false_ne_true)]
    exact wpAny_bind (any_setdef (by show A.units + 1 + 8 < cLine; omega) hk h8 m hz (fun x hx => wpAny_pure ⟨x.2.2, rfl, h1 x hx⟩) fun hn h' m' sb => wpAny_pure ⟨dflt, rfl, h2 hn h' m' sb⟩)
end
end Vx
/-! Vx1: values as data trees over the hand layer: representation, slots, steps. -/
namespace Vx
open PySem PySem.Spec L2

/-- the written part and the world -/
structure KW where
  K : PySem.W.Frag
  w : World
abbrev _root_.L2.Cx.kw (X : Cx) : KW := ⟨X.K, X.w⟩
/-! ### data in the abstract heap -/
/-- a list that nobody will write any more -/
def FzL (K : KW) (H : Hp) (a : Addr) (xs : List V) : Prop :=
  (∃ o, H a = some (.frz o (.lst xs))) ∨ (∃ (o : Obj) (its : Array Value) (n : Nat), K.K.lookup a = some o ∧ o.cls = .type "list" ∧ o.dict = none ∧ o.data = .seq its n ∧ its.size ≤ sizeLine ∧ Vals xs its.toList)
mutual
inductive Rp (K : KW) (H : Hp) : V → PyData → Prop
  | non : Rp K H .non .none
  | bl (b : Bool) : Rp K H (.bl b) (.bool b)
  | int (i : Int) : Rp K H (.int i) (.int i)
  | str (x : Str) : Rp K H (.str x) (.str x)
  | lst {p : Addr} {xs : List V} {ds : List PyData} : FzL K H p xs → RpA K H xs ds → Rp K H (.ref p) (.list ds)
  | tup {p : Addr} {xs : List V} {ds : List PyData} : SqT K.K H p xs → RpA K H xs ds → Rp K H (.ref p) (.tuple ds)
inductive RpA (K : KW) (H : Hp) : List V → List PyData → Prop
  | nil : RpA K H [] []
  | cons {v : V} {vs : List V} {d : PyData} {ds : List PyData} : Rp K H v d → RpA K H vs ds → RpA K H (v :: vs) (d :: ds)
end
/-- what is never written stays -/
structure Stb (H H' : Hp) : Prop where
  tup : ∀ b xs, H b = some (.tup xs) → H' b = some (.tup xs)
  frz : ∀ b o u, H b = some (.frz o u) → H' b = some (.frz o u)
theorem Stb.refl (H : Hp) : Stb H H := ⟨fun _ _ h => h, fun _ _ _ h => h⟩
theorem Stb.trans {H H1 H2 : Hp} (a : Stb H H1) (b : Stb H1 H2) : Stb H H2 := ⟨fun c xs h => b.tup c xs (a.tup c xs h), fun c o u h => b.frz c o u (a.frz c o u h)⟩
theorem Stb.sqT {K : KW} {H H' : Hp} (st : Stb H H') {a : Addr} {xs : List V} (h : SqT K.K H a xs) : SqT K.K H' a xs := by
  rcases h with (h | ⟨o, h⟩) | h
  · exact .inl (.inl (st.tup _ _ h))
  · exact .inl (.inr ⟨o, st.frz _ _ _ h⟩)
  · exact .inr h
theorem Stb.fzL {K : KW} {H H' : Hp} (st : Stb H H') {a : Addr} {xs : List V} (h : FzL K H a xs) : FzL K H' a xs := by
  rcases h with ⟨o, h⟩ | h
  · exact .inl ⟨o, st.frz _ _ _ h⟩
  · exact .inr h
theorem FzL.sq {K : KW} {H : Hp} {a : Addr} {xs : List V} (h : FzL K H a xs) : SqL K.K H a xs := by
  rcases h with ⟨o, h⟩ | h
  · exact .inl (.inr ⟨o, h⟩)
  · exact .inr h
section
variable {K : KW} {H H' : Hp}
mutual
theorem Rp.stb (st : Stb H H') : ∀ {d : PyData} {v : V}, Rp K H v d → Rp K H' v d
  | .none, _, h => by cases h; exact .non
  | .bool _, _, h => by cases h; exact .bl _
  | .int _, _, h => by cases h; exact .int _
  | .str _, _, h => by cases h; exact .str _
  | .list ds, _, h => by cases h with | lst h1 h2 => exact .lst (st.fzL h1) (RpA.stb st h2)
  | .tuple ds, _, h => by cases h with | tup h1 h2 => exact .tup (st.sqT h1) (RpA.stb st h2)
  | .dict _, _, h => by cases h
theorem RpA.stb (st : Stb H H') : ∀ {ds : List PyData} {vs : List V}, RpA K H vs ds → RpA K H' vs ds
  | [], _, h => by cases h; exact .nil
  | _ :: _, _, h => by cases h with | cons h1 h2 => exact .cons (Rp.stb st h1) (RpA.stb st h2)
end
mutual
theorem Rp.dp : ∀ {d : PyData} {v : V}, Rp K H v d → Dp K.K H v d
  | .none, _, h => by cases h; exact .non
  | .bool _, _, h => by cases h; exact .bl _
  | .int _, _, h => by cases h; exact .int _
  | .str _, _, h => by cases h; exact .str _
  | .list ds, _, h => by cases h with | lst h1 h2 => exact .lst h1.sq (RpA.dp h2)
  | .tuple ds, _, h => by cases h with | tup h1 h2 => exact .tup h1 (RpA.dp h2)
  | .dict _, _, h => by cases h
theorem RpA.dp : ∀ {ds : List PyData} {vs : List V}, RpA K H vs ds → DpAll K.K H vs ds
  | [], _, h => by cases h; exact .nil
  | _ :: _, _, h => by cases h with | cons h1 h2 => exact .cons (Rp.dp h1) (RpA.dp h2)
end
theorem RpA.length : ∀ {ds : List PyData} {vs : List V}, RpA K H vs ds → vs.length = ds.length
  | [], _, h => by cases h; rfl
  | _ :: _, _, h => by cases h with | cons h1 h2 => simp [RpA.length h2]
theorem RpA.get : ∀ {ds : List PyData} {vs : List V} {i : Nat} {d : PyData}, RpA K H vs ds → ds[i]? = some d → ∃ v, vs[i]? = some v ∧ Rp K H v d
  | [], _, _, _, _, e => by simp at e
  | _ :: _, _, 0, _, h, e => by cases h with | cons h1 h2 => simp at e; subst e; exact ⟨_, rfl, h1⟩
  | _ :: _, _, i + 1, _, h, e => by cases h with | cons h1 h2 => simpa using RpA.get h2 (by simpa using e)
theorem RpA.getV : ∀ {ds : List PyData} {vs : List V} {i : Nat} {v : V}, RpA K H vs ds → vs[i]? = some v → ∃ d, ds[i]? = some d ∧ Rp K H v d
  | [], _, _, _, h, e => by cases h; simp at e
  | _ :: _, _, 0, _, h, e => by cases h with | cons h1 h2 => simp at e; subst e; exact ⟨_, rfl, h1⟩
  | _ :: _, _, i + 1, _, h, e => by cases h with | cons h1 h2 => simpa using RpA.getV h2 (by simpa using e)
theorem RpA.append : ∀ {ds es : List PyData} {vs us : List V}, RpA K H vs ds → RpA K H us es → RpA K H (vs ++ us) (ds ++ es)
  | [], _, _, _, h, q => by cases h; exact q
  | _ :: _, _, _, _, h, q => by cases h with | cons h1 h2 => exact .cons h1 (RpA.append h2 q)
theorem RpA.take : ∀ {ds : List PyData} {vs : List V} (n : Nat), RpA K H vs ds → RpA K H (vs.take n) (ds.take n)
  | _, _, 0, _ => by simp; exact .nil
  | [], _, n + 1, h => by cases h; exact .nil
  | _ :: _, _, n + 1, h => by cases h with | cons h1 h2 => exact .cons h1 (RpA.take n h2)
theorem RpA.drop : ∀ {ds : List PyData} {vs : List V} (n : Nat), RpA K H vs ds → RpA K H (vs.drop n) (ds.drop n)
  | _, _, 0, h => h
  | [], _, n + 1, h => by cases h; exact .nil
  | _ :: _, _, n + 1, h => by cases h with | cons h1 h2 => exact RpA.drop n h2
theorem RpA.set : ∀ {ds : List PyData} {vs : List V} {v : V} {d : PyData} (i : Nat), RpA K H vs ds → Rp K H v d → RpA K H (vs.set i v) (ds.set i d)
  | [], _, _, _, _, h, _ => by cases h; exact .nil
  | _ :: _, _, _, _, 0, h, q => by cases h with | cons h1 h2 => exact .cons q h2
  | _ :: _, _, _, _, i + 1, h, q => by cases h with | cons h1 h2 => exact .cons h1 (RpA.set i h2 q)
theorem RpA.reverse {ds : List PyData} {vs : List V} (h : RpA K H vs ds) : RpA K H vs.reverse ds.reverse := by
  induction ds generalizing vs with
  | nil => cases h; exact .nil
  | cons d ds ih => cases h with | cons h1 h2 => simp only [List.reverse_cons]; exact (ih h2).append (.cons h1 .nil)
end

/-- sequences are within the machine's line -/
structure Szs (K : KW) (H : Hp) : Prop where
  lst : ∀ a xs, SqL K.K H a xs → xs.length ≤ sizeLine
  tup : ∀ a xs, SqT K.K H a xs → xs.length ≤ sizeLine
theorem szs_of {X : Cx} {pins : List (Addr × Obj)} {σ : St} {H : Hp} {s : Shared} (I : Inv X pins σ H s) : Szs X.kw H :=
  ⟨fun _ _ h => let ⟨_, _, _, z⟩ := I.list h; z, fun _ _ h => let ⟨_, _, _, z⟩ := I.tuple h; z⟩

/-! ### dicts -/
def rawDict (d : Addr) (es : List DictEntry) : Heap → Prop := fun h => (d == sysModules) = false ∧ ∃ o ep, h.get? d = some o ∧ o.ExactDict ∧ o.data = .dict es.toArray ep
abbrev Kvs := List (NestedKey × PyData)
structure EntR (K : KW) (H : Hp) (x : Ent) (kv : NestedKey × PyData) : Prop where
  key : x.1 = kv.1
  small : kv.1.depth ≤ 8
  krep : ∃ vk, RelV vk x.2.1 ∧ Rp K H vk kv.1.data
  vrep : ∃ vd, RelV vd x.2.2 ∧ Rp K H vd kv.2
abbrev Ents (K : KW) (H : Hp) : List Ent → Kvs → Prop := Paired (EntR K H)
theorem EntR.stb {K : KW} {H H' : Hp} (st : Stb H H') {x : Ent} {kv : NestedKey × PyData} (h : EntR K H x kv) : EntR K H' x kv :=
  ⟨h.key, h.small, let ⟨a, b, c⟩ := h.krep; ⟨a, b, c.stb st⟩, let ⟨a, b, c⟩ := h.vrep; ⟨a, b, c.stb st⟩⟩
theorem Ents.stb {K : KW} {H H' : Hp} (st : Stb H H') {xs : List Ent} {kvs : Kvs} (h : Ents K H xs kvs) : Ents K H' xs kvs := L2.Paired.mapP h fun _ _ q => q.stb st
/-! ### owned objects -/
structure ObjK where
  rep : V → Hp → Prop
  ft : V → Hp → Addr → Prop
  stay : ∀ {v H H'}, rep v H → Stb H H' → (∀ b, ft v H b → H' b = H b) → rep v H' ∧ ∀ b, ft v H' b → ft v H b
  trk : ∀ {v H b}, rep v H → ft v H b → H b ≠ none
inductive Own where
  | lst (ds : List PyData)
  | dct (kvs : Kvs)
  | rng (i j : Int)
  | obj (k : ObjK)
inductive Sl where
  | un
  | val (d : PyData)
  | own (o : Own)
  | io (o : Own)
instance : Inhabited Sl := ⟨.un⟩
def ownRep (K : KW) (H : Hp) (v : V) : Own → Prop
  | .lst ds => ∃ a xs, v = .ref a ∧ H a = some (.lst xs) ∧ RpA K H xs ds
  | .dct kvs => ∃ a xs, v = .ref a ∧ H a = some (.ext (rawDict a (xs.map (entOf K.w)))) ∧ Ents K H xs kvs ∧ (kvs.map (·.1)).Nodup ∧ kvs.length ≤ sizeLine
  | .rng i j => ∃ a, v = .ref a ∧ H a = some (.rng i j)
  | .obj k => k.rep v H
def ownFt (v : V) (H : Hp) : Own → Addr → Prop
  | .lst _ => fun b => v = .ref b
  | .dct _ => fun b => v = .ref b
  | .rng _ _ => fun b => v = .ref b
  | .obj k => k.ft v H
def slOk (K : KW) (H : Hp) (x : Option V) : Sl → Prop
  | .un => True
  | .val d => ∃ v, x = some v ∧ Rp K H v d
  | .own o => ∃ v, x = some v ∧ ownRep K H v o
  | .io o => ∃ v, x = some v ∧ ownRep K H v o
def slFt (m : Bool) (H : Hp) (x : Option V) : Sl → Addr → Prop
  | .own o => fun b => m = false ∧ ∃ v, x = some v ∧ ownFt v H o b
  | .io o => fun b => m = true ∧ ∃ v, x = some v ∧ ownFt v H o b
  | _ => fun _ => False
theorem ownRep.stay {K : KW} {H H' : Hp} {v : V} {o : Own} (r : ownRep K H v o) (st : Stb H H') (k : ∀ b, ownFt v H o b → H' b = H b) : ownRep K H' v o ∧ ∀ b, ownFt v H' o b → ownFt v H o b := by
  cases o with
  | lst ds =>
    obtain ⟨a, xs, rfl, e, q⟩ := r
    exact ⟨⟨a, xs, rfl, by rw [k a rfl]; exact e, q.stb st⟩, fun b h => h⟩
  | dct kvs =>
    obtain ⟨a, xs, rfl, e, q, z⟩ := r
    exact ⟨⟨a, xs, rfl, by rw [k a rfl]; exact e, Ents.stb st q, z⟩, fun b h => h⟩
  | rng i j =>
    obtain ⟨a, rfl, e⟩ := r
    exact ⟨⟨a, rfl, by rw [k a rfl]; exact e⟩, fun b h => h⟩
  | obj z => exact z.stay r st k
theorem ownRep.trk {K : KW} {H : Hp} {v : V} {o : Own} {b : Addr} (r : ownRep K H v o) (h : ownFt v H o b) : H b ≠ none := by
  cases o with
  | lst ds =>
    obtain ⟨a, xs, rfl, e, q⟩ := r
    cases h
    rw [e]; simp
  | dct kvs =>
    obtain ⟨a, xs, rfl, e, q, z⟩ := r
    cases h
    rw [e]; simp
  | rng i j =>
    obtain ⟨a, rfl, e⟩ := r
    cases h
    rw [e]; simp
  | obj z => exact z.trk r h

def owned (m : Bool) (ρ : List Sl) (σ : St) (H : Hp) (b : Addr) : Prop := ∃ (i : Nat) (s : Sl) (x : Option V), ρ[i]? = some s ∧ σ[i]? = some x ∧ slFt m H x s b
structure Hold (K : KW) (ρ : List Sl) (σ : St) (H : Hp) : Prop where
  len : σ.length = ρ.length
  ok : ∀ (i : Nat) (s : Sl) (x : Option V), ρ[i]? = some s → σ[i]? = some x → slOk K H x s
  sep : ∀ (i j : Nat) (s t : Sl) (x y : Option V) (b : Addr) (m n : Bool), i ≠ j → ρ[i]? = some s → ρ[j]? = some t → σ[i]? = some x → σ[j]? = some y → slFt m H x s b → slFt n H y t b → False
  sz : Szs K H
structure Stp (K : KW) (ρ : List Sl) (σ : St) (H : Hp) (ρ' : List Sl) (σ' : St) (H' : Hp) : Prop where
  hold : Hold K ρ' σ' H'
  stb : Stb H H'
  keep : ∀ b o, H b = some o → (∀ m, ¬ owned m ρ σ H b) → H' b = some o
  fresh : ∀ m b, owned m ρ' σ' H' b → owned m ρ σ H b ∨ H b = none
  trk : ∀ b, H b ≠ none → H' b ≠ none
  io : ∀ (i : Nat) (o : Own), ρ[i]? = some (.io o) → ∃ o', ρ'[i]? = some (.io o') ∧ σ'[i]? = σ[i]? ∧ ∀ b x, σ[i]? = some x → slFt true H' x (.io o') b → slFt true H x (.io o) b ∨ H b = none
theorem Stp.refl {K : KW} {ρ : List Sl} {σ : St} {H : Hp} (h : Hold K ρ σ H) : Stp K ρ σ H ρ σ H :=
  ⟨h, Stb.refl _, fun _ _ e _ => e, fun _ _ z => .inl z, fun _ z => z, fun _ o e => ⟨o, e, rfl, fun _ _ _ f => .inl f⟩⟩
theorem Stp.trans {K : KW} {ρ ρ1 ρ2 : List Sl} {σ σ1 σ2 : St} {H H1 H2 : Hp} (a : Stp K ρ σ H ρ1 σ1 H1) (b : Stp K ρ1 σ1 H1 ρ2 σ2 H2) : Stp K ρ σ H ρ2 σ2 H2 where
  hold := b.hold
  stb := a.stb.trans b.stb
  keep := fun c o e n => b.keep c o (a.keep c o e n) fun m q => by
    rcases a.fresh m c q with z | z
    · exact n m z
    · rw [e] at z; cases z
  fresh := fun m c q => by
    rcases b.fresh m c q with z | z
    · exact a.fresh m c z
    · right
      cases e : H c with
      | none => rfl
      | some o => exact absurd z (a.trk c (by rw [e]; simp))
  trk := fun c z => b.trk c (a.trk c z)
  io := fun i o e => by
    obtain ⟨o1, e1, s1, f1⟩ := a.io i o e
    obtain ⟨o2, e2, s2, f2⟩ := b.io i o1 e1
    refine ⟨o2, e2, s2.trans s1, fun c x hx f => ?_⟩
    rcases f2 c x (s1.trans hx) f with z | z
    · exact f1 c x hx z
    · right
      cases e : H c with
      | none => rfl
      | some o => exact absurd z (a.trk c (by rw [e]; simp))
/-- owned addresses are tracked -/
theorem Hold.trk {K : KW} {ρ : List Sl} {σ : St} {H : Hp} (h : Hold K ρ σ H) {m : Bool} {b : Addr} (q : owned m ρ σ H b) : H b ≠ none := by
  obtain ⟨i, s, x, h1, h2, h3⟩ := q
  have z := h.ok i s x h1 h2
  cases s with
  | un => exact h3.elim
  | val d => exact h3.elim
  | own o =>
    obtain ⟨_, v, e, f⟩ := h3
    obtain ⟨v', e', r⟩ := z
    subst e; cases e'
    exact r.trk f
  | io o =>
    obtain ⟨_, v, e, f⟩ := h3
    obtain ⟨v', e', r⟩ := z
    subst e; cases e'
    exact r.trk f
/-- a slot stays if the heap stays at its footprint -/
theorem slOk.stay {K : KW} {H H' : Hp} {x : Option V} {s : Sl} (r : slOk K H x s) (st : Stb H H') (k : ∀ m b, slFt m H x s b → H' b = H b) : slOk K H' x s ∧ ∀ m b, slFt m H' x s b → slFt m H x s b := by
  cases s with
  | un => exact ⟨trivial, fun _ _ h => h⟩
  | val d => obtain ⟨v, e, q⟩ := r; exact ⟨⟨v, e, q.stb st⟩, fun _ _ h => h⟩
  | own o =>
    obtain ⟨v, e, q⟩ := r
    have z := q.stay st fun b hb => k false b ⟨rfl, v, e, hb⟩
    refine ⟨⟨v, e, z.1⟩, fun m b h => ?_⟩
    obtain ⟨hm, v', e', f⟩ := h
    subst e; cases e'
    exact ⟨hm, v, rfl, z.2 b f⟩
  | io o =>
    obtain ⟨v, e, q⟩ := r
    have z := q.stay st fun b hb => k true b ⟨rfl, v, e, hb⟩
    refine ⟨⟨v, e, z.1⟩, fun m b h => ?_⟩
    obtain ⟨hm, v', e', f⟩ := h
    subst e; cases e'
    exact ⟨hm, v, rfl, z.2 b f⟩
/-- the heap grows: nothing that was is changed -/
theorem Hold.grow {K : KW} {ρ : List Sl} {σ : St} {H H' : Hp} (h : Hold K ρ σ H) (g : Same H H') (z : Szs K H') : Stp K ρ σ H ρ σ H' := by
  have st : Stb H H' := ⟨fun _ _ e => g _ _ e, fun _ _ _ e => g _ _ e⟩
  have key : ∀ (i : Nat) (s : Sl) (x : Option V), ρ[i]? = some s → σ[i]? = some x → slOk K H' x s ∧ ∀ m b, slFt m H' x s b → slFt m H x s b := fun i s x h1 h2 =>
    (h.ok i s x h1 h2).stay st fun m b hb => by
      have t := h.trk ⟨i, s, x, h1, h2, hb⟩
      cases e : H b with
      | none => exact absurd e t
      | some o => exact g b o e
  exact ⟨⟨h.len, fun i s x h1 h2 => (key i s x h1 h2).1, fun i j s t x y b m n ne h1 h2 h3 h4 f1 f2 => h.sep i j s t x y b m n ne h1 h2 h3 h4 ((key i s x h1 h3).2 m b f1) ((key j t y h2 h4).2 n b f2), z⟩, st,
    fun b o e _ => g b o e, fun m b q => by
      obtain ⟨i, s, x, h1, h2, h3⟩ := q
      exact .inl ⟨i, s, x, h1, h2, (key i s x h1 h2).2 m b h3⟩, fun b e => by
      cases q : H b with
      | none => exact absurd q e
      | some o => rw [g b o q]; simp, fun i o e => ⟨o, e, rfl, fun b x hx f => .inl ((key i _ x e hx).2 true b f)⟩⟩
theorem same_new {H : Hp} {p : Addr} {o : HO} (h : H p = none) : Same H (upd H p o) := fun b x e => by
  rw [upd_ne (ne_of_none e h)]
  exact e
end Vx
/-! Vx2: what an expression, a test, an argument list computes over data trees: the judgements and their first rules. -/
namespace Vx
open PySem PySem.Spec L2

abbrev Rho := List Sl
inductive Ref where
  | dat (d : PyData)
  | sl (i : Nat)
abbrev EM := Rho → Option (Ref × Rho)
abbrev VM := Rho → Option (PyData × Rho)
abbrev OM := Rho → Option (Own × Rho)
abbrev TM := Rho → Option (Bool × Rho)
abbrev RM := Rho → Option (List Ref × Rho)

/-- data, the outmost list perhaps still its owner's -/
def Bq (K : KW) (H : Hp) (v : V) (d : PyData) : Prop := Rp K H v d ∨ ∃ a xs ds, v = .ref a ∧ d = .list ds ∧ SqL K.K H a xs ∧ RpA K H xs ds
section
variable {K : KW} {H H' : Hp} {v : V}
theorem Bq.list {ds : List PyData} (h : Bq K H v (.list ds)) : ∃ a xs, v = .ref a ∧ SqL K.K H a xs ∧ RpA K H xs ds := by
  rcases h with h | ⟨a, xs, ds', rfl, e, s, q⟩
  · cases h with | lst h1 h2 => exact ⟨_, _, rfl, h1.sq, h2⟩
  · cases e; exact ⟨a, xs, rfl, s, q⟩
theorem Bq.tuple {ds : List PyData} (h : Bq K H v (.tuple ds)) : ∃ a xs, v = .ref a ∧ SqT K.K H a xs ∧ RpA K H xs ds := by
  rcases h with h | ⟨a, xs, ds', rfl, e, s, q⟩
  · cases h with | tup h1 h2 => exact ⟨_, _, rfl, h1, h2⟩
  · cases e
theorem Bq.int {i : Int} (h : Bq K H v (.int i)) : v = .int i := by
  rcases h with h | ⟨a, xs, ds', rfl, e, s, q⟩
  · cases h; rfl
  · cases e
theorem Bq.str {x : Str} (h : Bq K H v (.str x)) : v = .str x := by
  rcases h with h | ⟨a, xs, ds', rfl, e, s, q⟩
  · cases h; rfl
  · cases e
theorem Bq.bool {b : Bool} (h : Bq K H v (.bool b)) : v = .bl b := by
  rcases h with h | ⟨a, xs, ds', rfl, e, s, q⟩
  · cases h; rfl
  · cases e
theorem Bq.none (h : Bq K H v .none) : v = .non := by
  rcases h with h | ⟨a, xs, ds', rfl, e, s, q⟩
  · cases h; rfl
  · cases e
theorem Bq.dp {d : PyData} (h : Bq K H v d) : Dp K.K H v d := by
  rcases h with h | ⟨a, xs, ds, rfl, rfl, s, q⟩
  · exact h.dp
  · exact .lst s q.dp
end

def RefOk (K : KW) (σ : L2.St) (H : Hp) (v : V) : Ref → Prop
  | .dat d => Rp K H v d
  | .sl i => σ[i]? = some (some v)
def rd (ρ : Rho) : Ref → Option PyData
  | .dat d => some d
  | .sl i => match ρ[i]? with
    | some (.val d) => some d
    | some (.own (.lst ds)) => some (.list ds)
    | some (.io (.lst ds)) => some (.list ds)
    | _ => none
def fz (ρ : Rho) : Ref → Option (PyData × Rho)
  | .dat d => some (d, ρ)
  | .sl i => match ρ[i]? with
    | some (.val d) => some (d, ρ)
    | some (.own (.lst ds)) => some (.list ds, ρ.set i (.val (.list ds)))
    | _ => none
theorem RefOk.stb {K : KW} {σ : L2.St} {H H' : Hp} {v : V} {r : Ref} (h : RefOk K σ H v r) (st : Stb H H') : RefOk K σ H' v r := by
  cases r with
  | dat d => exact Rp.stb st h
  | sl i => exact h
theorem rd_bq {K : KW} {ρ : Rho} {σ : L2.St} {H : Hp} {v : V} {r : Ref} {d : PyData} (hh : Hold K ρ σ H) (h : RefOk K σ H v r) (e : rd ρ r = some d) : Bq K H v d := by
  cases r with
  | dat d' => cases e; exact .inl h
  | sl i =>
    have hs : σ[i]? = some (some v) := h
    unfold rd at e
    dsimp only at e
    cases q : ρ[i]? with
    | none => rw [q] at e; cases e
    | some s =>
      rw [q] at e
      have ok := hh.ok i s _ q hs
      cases s with
      | un => cases e
      | val d' =>
        cases e
        obtain ⟨v', e', r⟩ := ok
        cases e'
        exact .inl r
      | own o =>
        obtain ⟨v', e', r⟩ := ok
        cases e'
        cases o with
        | lst ds =>
          cases e
          obtain ⟨a, xs, rfl, ha, ra⟩ := r
          exact .inr ⟨a, xs, ds, rfl, rfl, .of ha, ra⟩
        | dct kvs => cases e
        | rng _ _ => cases e
        | obj k => cases e
      | io o =>
        obtain ⟨v', e', r⟩ := ok
        cases e'
        cases o with
        | lst ds =>
          cases e
          obtain ⟨a, xs, rfl, ha, ra⟩ := r
          exact .inr ⟨a, xs, ds, rfl, rfl, .of ha, ra⟩
        | dct kvs => cases e
        | rng _ _ => cases e
        | obj k => cases e

/-! ### the judgements -/
def tR (K : KW) (m : EM) : TE := fun σ H Q => ∃ ρ r ρ', Hold K ρ σ H ∧ m ρ = some (r, ρ') ∧ ∀ v H', Stp K ρ σ H ρ' σ H' → RefOk K σ H' v r → Q v H'
def tV (K : KW) (m : VM) : TE := fun σ H Q => ∃ ρ d ρ', Hold K ρ σ H ∧ m ρ = some (d, ρ') ∧ ∀ v H', Stp K ρ σ H ρ' σ H' → Rp K H' v d → Q v H'
/-- a new object that nobody else has -/
structure NewO (K : KW) (ρ' : Rho) (σ : L2.St) (H H' : Hp) (v : V) (o : Own) : Prop where
  rep : ownRep K H' v o
  new : ∀ b, ownFt v H' o b → H b = none ∧ ∀ m, ¬ owned m ρ' σ H' b
def tO (K : KW) (m : OM) : TE := fun σ H Q => ∃ ρ o ρ', Hold K ρ σ H ∧ m ρ = some (o, ρ') ∧ ∀ v H', Stp K ρ σ H ρ' σ H' → NewO K ρ' σ H H' v o → Q v H'
def tT (K : KW) (m : TM) : TT := fun σ H Q => ∃ ρ b ρ', Hold K ρ σ H ∧ m ρ = some (b, ρ') ∧ ∀ H', Stp K ρ σ H ρ' σ H' → Q b H'
def RefsOk (K : KW) (σ : L2.St) (H : Hp) : List V → List Ref → Prop := Paired (RefOk K σ H)
def tRs (K : KW) (m : RM) : TA := fun σ H Q => ∃ ρ rs ρ', Hold K ρ σ H ∧ m ρ = some (rs, ρ') ∧ ∀ vs H', Stp K ρ σ H ρ' σ H' → RefsOk K σ H' vs rs → Q vs H'
section
variable (X : Cx)
abbrev RE (e : Expr) (m : EM) : Prop := PE X e (tR X.kw m)
abbrev VE (e : Expr) (m : VM) : Prop := PE X e (tV X.kw m)
abbrev OE (e : Expr) (m : OM) : Prop := PE X e (tO X.kw m)
abbrev BT (e : Expr) (m : TM) : Prop := PT X e (tT X.kw m)
abbrev RS (es : List Expr) (m : RM) : Prop := PA X es (tRs X.kw m)
end
section
variable {X : Cx} {e e' : Expr}
theorem pem {t t' : TE} (h : PE X e t) (w : ∀ σ H Q, t' σ H Q → t σ H Q) : PE X e t' := ⟨fun pins s σ H Q I q => h.run pins s σ H Q I (w σ H Q q)⟩
theorem ptm {t t' : TT} (h : PT X e t) (w : ∀ σ H Q, t' σ H Q → t σ H Q) : PT X e t' := ⟨fun pins s σ H Q I q => h.run pins s σ H Q I (w σ H Q q)⟩
theorem pwm {t t' : TT} (h : PW X e t) (w : ∀ σ H Q, t' σ H Q → t σ H Q) : PW X e t' := ⟨fun wh pins s σ H Q I q => h.run wh pins s σ H Q I (w σ H Q q)⟩
theorem pam {es : List Expr} {t t' : TA} (h : PA X es t) (w : ∀ σ H Q, t' σ H Q → t σ H Q) : PA X es t' := ⟨fun ps pins s σ H Q I q => h.run ps pins s σ H Q I (w σ H Q q)⟩
theorem psm {st : Stmt} {t t' : TS} (h : PS X st t) (w : ∀ D σ H, t' D σ H → t D σ H) : PS X st t' := ⟨fun pins s σ H D I q => h.run pins s σ H D I (w D σ H q)⟩
theorem pssm {st : List Stmt} {t t' : TS} (h : PSs X st t) (w : ∀ D σ H, t' D σ H → t D σ H) : PSs X st t' := ⟨fun pins s σ H D I q => h.run pins s σ H D I (w D σ H q)⟩

/-- a list that is ours is closed for good -/
theorem inv_freeze {pins : List (Addr × Obj)} {σ : L2.St} {H : Hp} {s : Shared} {a : Addr} {xs : List V} (I : Inv X pins σ H s) (e : H a = some (.lst xs)) : ∃ o, Inv X pins σ (upd H a (.frz o (.lst xs))) s := by
  have hk := I.hok a _ e
  obtain ⟨z, its, n, r, g⟩ : xs.length ≤ sizeLine ∧ ∃ (its : List Value) (n : Nat), Vals xs its ∧ s.heap.get? a = some { cls := .type "list", data := .seq its.toArray n } := hk
  refine ⟨_, I.un (h' := s.heap) (t' := s.toks) (H' := upd H a (.frz { cls := .type "list", data := .seq its.toArray n } (.lst xs))) ?_ ?_⟩
  · have ne : ∀ b u, H b = some u → (∀ ys, u ≠ .lst ys) → b ≠ a := fun b u q d z => by subst z; rw [e] at q; cases q; exact d _ rfl
    refine ⟨fun b o q _ _ _ => q, fun b o q _ _ _ => ⟨o.slots, q⟩, fun b o q n _ => ?_, fun b o q _ => ⟨o, q⟩, fun b ys q => ?_, fun b o u q => ?_, fun b ps q => ?_⟩
    · rw [upd_ne (fun z => by subst z; rw [e] at n; cases n)]; exact n
    · rw [upd_ne (ne b _ q fun _ => by intro z; cases z)]; exact q
    · rw [upd_ne (ne b _ q fun _ => by intro z; cases z)]; exact q
    · exact ⟨#[], by rw [upd_ne (ne b _ q fun _ => by intro z; cases z), q]; simp⟩
  · intro b u q
    by_cases hb : b = a
    · subst hb
      rw [upd_same] at q
      cases q
      exact ⟨g, z, its, n, r, g⟩
    · rw [upd_ne hb] at q
      refine (I.hok b u q).stay (fun c v _ y => y) (fun c y => ?_) fun c ys y => ?_
      · rw [upd_ne (fun z => by subst z; rw [e] at y; cases y)]; exact y
      · rw [upd_ne (fun z => by subst z; rw [e] at y; cases y)]; exact y
/-- what may be wished of a heap, with a list closed perhaps -/
def GQ (K : KW) (H : Hp) (R : Hp → Prop) : Prop := Szs K H → (R H ∨ ∃ a xs, H a = some (.lst xs) ∧ ∀ o, Szs K (upd H a (.frz o (.lst xs))) → R (upd H a (.frz o (.lst xs))))
theorem gq_run {pins : List (Addr × Obj)} {σ : L2.St} {H : Hp} {s : Shared} {R : Hp → Prop} (I : Inv X pins σ H s) (g : GQ X.kw H R) : ∃ H', Inv X pins σ H' s ∧ R H' := by
  rcases g (szs_of I) with q | ⟨a, xs, e, q⟩
  · exact ⟨H, I, q⟩
  · obtain ⟨o, I'⟩ := inv_freeze I e
    exact ⟨_, I', q o (szs_of I')⟩
theorem pe_gh {t : TE} (h : PE X e t) : PE X e (fun σ H Q => t σ H fun v H' => GQ X.kw H' (Q v)) := by
  refine ⟨fun pins s σ H Q I q => ?_⟩
  refine thn (h.run pins s σ H _ I q) fun u s1 ⟨v, H1, I1, r1, g⟩ => ?_
  obtain ⟨H2, I2, q2⟩ := gq_run I1 g
  exact ⟨v, H2, I2, r1, q2⟩
theorem pt_gh {t : TT} (h : PT X e t) : PT X e (fun σ H Q => t σ H fun v H' => GQ X.kw H' (Q v)) := by
  refine ⟨fun pins s σ H Q I q => ?_⟩
  refine thn (h.run pins s σ H _ I q) fun u s1 ⟨H1, I1, g⟩ => ?_
  obtain ⟨H2, I2, q2⟩ := gq_run I1 g
  exact ⟨H2, I2, q2⟩
theorem pa_gh {es : List Expr} {t : TA} (h : PA X es t) : PA X es (fun σ H Q => t σ H fun v H' => GQ X.kw H' (Q v)) := by
  refine ⟨fun pos pins s σ H Q I q => ?_⟩
  refine thn (h.run pos pins s σ H _ I q) fun u s1 ⟨v, H1, I1, r1, g⟩ => ?_
  obtain ⟨H2, I2, q2⟩ := gq_run I1 g
  exact ⟨v, H2, I2, r1, q2⟩
end

/-- closing an address that was not there before and that no slot holds -/
theorem Stp.poke {K : KW} {ρ ρ' : Rho} {σ σ' : L2.St} {H H' : Hp} {a : Addr} {xs : List V} {u : HO} (s : Stp K ρ σ H ρ' σ' H') (ha : H a = none) (hn : ∀ m, ¬ owned m ρ' σ' H' a) (e : H' a = some (.lst xs))
    (z : Szs K (upd H' a u)) : Stp K ρ σ H ρ' σ' (upd H' a u) := by
  have st : Stb H' (upd H' a u) := ⟨fun b ys q => by rw [upd_ne (fun z => by subst z; rw [e] at q; cases q)]; exact q, fun b o w q => by rw [upd_ne (fun z => by subst z; rw [e] at q; cases q)]; exact q⟩
  have key : ∀ (i : Nat) (t : Sl) (x : Option V), ρ'[i]? = some t → σ'[i]? = some x → slOk K (upd H' a u) x t ∧ ∀ m b, slFt m (upd H' a u) x t b → slFt m H' x t b := fun i t x h1 h2 =>
    (s.hold.ok i t x h1 h2).stay st fun m b hb => upd_ne fun q => by subst q; exact hn m ⟨i, t, x, h1, h2, hb⟩
  refine ⟨⟨s.hold.len, fun i t x h1 h2 => (key i t x h1 h2).1, fun i j t t' x y b m n ne h1 h2 h3 h4 f1 f2 => s.hold.sep i j t t' x y b m n ne h1 h2 h3 h4 ((key i t x h1 h3).2 m b f1) ((key j t' y h2 h4).2 n b f2), z⟩,
    s.stb.trans st, fun b o q n => ?_, fun m b q => ?_, fun b q => ?_, fun i o q => ?_⟩
  · rw [upd_ne (fun z => by subst z; rw [ha] at q; cases q)]
    exact s.keep b o q n
  · obtain ⟨i, t, x, h1, h2, h3⟩ := q
    exact s.fresh m b ⟨i, t, x, h1, h2, (key i t x h1 h2).2 m b h3⟩
  · by_cases hb : b = a
    · subst hb; rw [upd_same]; simp
    · rw [upd_ne hb]; exact s.trk b q
  · obtain ⟨o', e1, e2, f⟩ := s.io i o q
    exact ⟨o', e1, e2, fun b x hx g => f b x hx ((key i _ x e1 (e2.trans hx)).2 true b g)⟩
theorem set_get {α : Type} {l : List α} {i j : Nat} {x y : α} (h : (l.set i x)[j]? = some y) : (i = j ∧ y = x ∧ i < l.length) ∨ (i ≠ j ∧ l[j]? = some y) := by
  by_cases e : i = j
  · subst e
    rw [List.getElem?_set_self'] at h
    cases q : l[i]? with
    | none => rw [q] at h; cases h
    | some z =>
      rw [q] at h
      cases h
      exact .inl ⟨rfl, rfl, (List.getElem?_eq_some_iff.mp q).1⟩
  · rw [List.getElem?_set_ne e] at h
    exact .inr ⟨e, h⟩
/-- a slot's list is closed -/
theorem Hold.freeze {K : KW} {ρ : Rho} {σ : L2.St} {H : Hp} {i : Nat} {ds : List PyData} (h : Hold K ρ σ H) (e : ρ[i]? = some (.own (.lst ds))) :
    ∃ a xs, σ[i]? = some (some (.ref a)) ∧ H a = some (.lst xs) ∧ ∀ o, Szs K (upd H a (.frz o (.lst xs))) → Stp K ρ σ H (ρ.set i (.val (.list ds))) σ (upd H a (.frz o (.lst xs))) ∧ Rp K (upd H a (.frz o (.lst xs))) (.ref a) (.list ds) := by
  have hi : i < σ.length := by rw [h.len]; exact (List.getElem?_eq_some_iff.mp e).1
  obtain ⟨v, ev, a, xs, rfl, ha, q⟩ := h.ok i _ _ e (List.getElem?_eq_getElem hi)
  have hs : σ[i]? = some (some (.ref a)) := by rw [List.getElem?_eq_getElem hi, ev]
  refine ⟨a, xs, hs, ha, fun o z => ?_⟩
  have st : Stb H (upd H a (.frz o (.lst xs))) := ⟨fun b ys q => by rw [upd_ne (fun z => by subst z; rw [ha] at q; cases q)]; exact q, fun b o w q => by rw [upd_ne (fun z => by subst z; rw [ha] at q; cases q)]; exact q⟩
  have rp : Rp K (upd H a (.frz o (.lst xs))) (.ref a) (.list ds) := .lst (.inl ⟨o, upd_same⟩) (q.stb st)
  have own : slFt false H (some (V.ref a)) (.own (.lst ds)) a := ⟨rfl, _, rfl, rfl⟩
  have key : ∀ (j : Nat) (t : Sl) (x : Option V), i ≠ j → ρ[j]? = some t → σ[j]? = some x → slOk K (upd H a (.frz o (.lst xs))) x t ∧ ∀ m b, slFt m (upd H a (.frz o (.lst xs))) x t b → slFt m H x t b := fun j t x ne h1 h2 =>
    (h.ok j t x h1 h2).stay st fun m b hb => upd_ne fun q => by
      subst q
      exact h.sep i j _ t _ x b false m ne e h1 hs h2 own hb
  refine ⟨⟨⟨by simp [h.len], fun j t x h1 h2 => ?_, fun j k t t' x y b m n ne h1 h2 h3 h4 f1 f2 => ?_, z⟩, st, fun b u q n => ?_, fun m b q => ?_, fun b q => ?_, fun j u q => ?_⟩, rp⟩
  · rcases set_get h1 with ⟨rfl, rfl, _⟩ | ⟨ne, h1⟩
    · rw [hs] at h2; cases h2
      exact ⟨_, rfl, rp⟩
    · exact (key j t x ne h1 h2).1
  · rcases set_get h1 with ⟨rfl, rfl, _⟩ | ⟨n1, h1⟩
    · exact f1.elim
    rcases set_get h2 with ⟨rfl, rfl, _⟩ | ⟨n2, h2⟩
    · exact f2.elim
    exact h.sep j k t t' x y b m n ne h1 h2 h3 h4 ((key j t x n1 h1 h3).2 m b f1) ((key k t' y n2 h2 h4).2 n b f2)
  · rw [upd_ne fun z => by subst z; exact n false ⟨i, _, _, e, hs, own⟩]
    exact q
  · obtain ⟨j, t, x, h1, h2, h3⟩ := q
    rcases set_get h1 with ⟨rfl, rfl, _⟩ | ⟨n1, h1⟩
    · exact h3.elim
    · exact .inl ⟨j, t, x, h1, h2, (key j t x n1 h1 h2).2 m b h3⟩
  · by_cases hb : b = a
    · subst hb; rw [upd_same]; simp
    · rw [upd_ne hb]; exact q
  · have n1 : i ≠ j := by rintro rfl; rw [e] at q; cases q
    exact ⟨u, by rw [List.getElem?_set_ne n1]; exact q, rfl, fun b x hx f => .inl ((key j _ x n1 q hx).2 true b f)⟩

def mV (m : EM) : VM := fun ρ => (m ρ).bind fun p => fz p.2 p.1
def mR (m : VM) : EM := fun ρ => (m ρ).map fun p => (.dat p.1, p.2)
def mF (m : OM) : VM := fun ρ => (m ρ).bind fun p => match p.1 with
  | .lst ds => some (.list ds, p.2)
  | _ => none
section
variable {X : Cx} {e : Expr}
theorem fz_run {K : KW} {ρ ρ' : Rho} {σ : L2.St} {H : Hp} {v : V} {r : Ref} {d : PyData} {R : Hp → Prop} (h : Hold K ρ σ H) (ok : RefOk K σ H v r) (q : fz ρ r = some (d, ρ')) (k : ∀ H', Stp K ρ σ H ρ' σ H' → Rp K H' v d → R H') : GQ K H R := by
  intro z
  cases r with
  | dat d' => cases q; exact .inl (k H (.refl h) ok)
  | sl i =>
    have hs : σ[i]? = some (some v) := ok
    unfold fz at q
    dsimp only at q
    cases e : ρ[i]? with
    | none => rw [e] at q; cases q
    | some s =>
      rw [e] at q
      cases s with
      | un => cases q
      | val d' =>
        cases q
        obtain ⟨v', ev, r⟩ := h.ok i _ _ e hs
        cases ev
        exact .inl (k H (.refl h) r)
      | io o => cases q
      | own o =>
        cases o with
        | dct _ => cases q
        | rng _ _ => cases q
        | obj _ => cases q
        | lst ds =>
          cases q
          obtain ⟨a, xs, hs', ha, kk⟩ := h.freeze e
          rw [hs] at hs'; cases hs'
          exact .inr ⟨a, xs, ha, fun o z => k _ (kk o z).1 (kk o z).2⟩
/-- any expression's value, as data -/
theorem ve_r {m : EM} (h : RE X e m) : VE X e (mV m) := by
  refine pem (pe_gh h) fun σ H Q ⟨ρ, d, ρ', hh, em, k⟩ => ?_
  obtain ⟨⟨r, ρ1⟩, e1, e2⟩ := Option.bind_eq_some_iff.mp em
  exact ⟨ρ, r, ρ1, hh, e1, fun v H1 s1 ok => fz_run s1.hold ok e2 fun H2 s2 rp => k v H2 (s1.trans s2) rp⟩
theorem re_v {m : VM} (h : VE X e m) : RE X e (mR m) := by
  refine pem h fun σ H Q ⟨ρ, r, ρ', hh, em, k⟩ => ?_
  obtain ⟨⟨d, ρ1⟩, e1, e2⟩ := Option.map_eq_some_iff.mp em
  cases e2
  exact ⟨ρ, d, ρ1, hh, e1, fun v H1 s1 rp => k v H1 s1 rp⟩
theorem ve_o {m : OM} (h : OE X e m) : VE X e (mF m) := by
  refine pem (pe_gh h) fun σ H Q ⟨ρ, d, ρ', hh, em, k⟩ => ?_
  obtain ⟨⟨o, ρ1⟩, e1, e2⟩ := Option.bind_eq_some_iff.mp em
  cases o with
  | dct _ => cases e2
  | rng _ _ => cases e2
  | obj _ => cases e2
  | lst ds =>
    cases e2
    refine ⟨ρ, .lst ds, ρ1, hh, e1, fun v H1 s1 n z => ?_⟩
    obtain ⟨a, xs, rfl, ha, ra⟩ := n.rep
    have nw := n.new a rfl
    refine .inr ⟨a, xs, ha, fun o z => ?_⟩
    have s2 := s1.poke (u := .frz o (.lst xs)) nw.1 nw.2 ha z
    refine k _ _ s2 (.lst (.inl ⟨o, upd_same⟩) (ra.stb ⟨fun b ys q => ?_, fun b o w q => ?_⟩))
    · rw [upd_ne (fun z => by subst z; rw [ha] at q; cases q)]; exact q
    · rw [upd_ne (fun z => by subst z; rw [ha] at q; cases q)]; exact q
end
end Vx
/-! Vx3: expressions over data trees: constants, names, displays, operators, comparisons, calls of built-ins, tests. -/
namespace Vx
open PySem PySem.Spec L2

/-! ### results -/
/-- what an operation hands back: data, or a new list of data -/
def Res (K : KW) (H H' : Hp) (v : V) (d : PyData) : Prop := Rp K H' v d ∨ ∃ p xs ds, v = .ref p ∧ d = .list ds ∧ H p = none ∧ H' p = some (.lst xs) ∧ RpA K H' xs ds
theorem res_run {K : KW} {ρ ρ' : Rho} {σ : L2.St} {H H2 H' : Hp} {v : V} {d : PyData} {R : Hp → Prop} (s : Stp K ρ σ H ρ' σ H2) (g : Same H2 H') (rs : Res K H2 H' v d) (k : ∀ H'', Stp K ρ σ H ρ' σ H'' → Rp K H'' v d → R H'') : GQ K H' R := by
  intro z
  have s2 := s.trans (s.hold.grow g z)
  rcases rs with rp | ⟨p, xs, ds, rfl, rfl, np, hp, ra⟩
  · exact .inl (k H' s2 rp)
  · have np0 : H p = none := by
      cases e : H p with
      | none => rfl
      | some o => exact absurd np (s.trk p (by rw [e]; simp))
    have no : ∀ m, ¬ owned m ρ' σ H' p := fun m q => by
      rcases (s.hold.grow g z).fresh m p q with q | q
      · exact s.hold.trk q np
      · have := (s.hold.grow g z).hold.trk ‹_›
        rcases (s.hold.grow g z).fresh m p ‹_› with q2 | q2
        · exact s.hold.trk q2 np
        · obtain ⟨i, t, x, h1, h2, h3⟩ := ‹owned m ρ' σ H' p›
          have ok := s.hold.ok i t x h1 h2
          have st := ok.stay (H' := H') ⟨fun _ _ e => g _ _ e, fun _ _ _ e => g _ _ e⟩ fun m b hb => by
            have t' := s.hold.trk ⟨i, t, x, h1, h2, hb⟩
            cases e : H2 b with
            | none => exact absurd e t'
            | some o => exact g b o e
          exact s.hold.trk ⟨i, t, x, h1, h2, st.2 m p h3⟩ np
    refine .inr ⟨p, xs, hp, fun o z' => k _ (s2.poke np0 no hp z') (.lst (.inl ⟨o, upd_same⟩) (ra.stb ⟨fun b ys q => ?_, fun b o w q => ?_⟩))⟩
    · rw [upd_ne (fun z => by subst z; rw [hp] at q; cases q)]; exact q
    · rw [upd_ne (fun z => by subst z; rw [hp] at q; cases q)]; exact q
/-- a new own list -/
theorem newo_run {K : KW} {ρ ρ' : Rho} {σ : L2.St} {H H2 H' : Hp} {v : V} {o : Own} (s : Stp K ρ σ H ρ' σ H2) (g : Same H2 H') (z : Szs K H') (r : ownRep K H' v o) (f : ∀ b, ownFt v H' o b → H2 b = none) : Stp K ρ σ H ρ' σ H' ∧ NewO K ρ' σ H H' v o := by
  have s2 := s.trans (s.hold.grow g z)
  refine ⟨s2, r, fun b hb => ⟨?_, fun m q => ?_⟩⟩
  · cases e : H b with
    | none => rfl
    | some o => exact absurd (f b hb) (s.trk b (by rw [e]; simp))
  · obtain ⟨i, t, x, h1, h2, h3⟩ := q
    have ok := s.hold.ok i t x h1 h2
    have st := ok.stay (H' := H') ⟨fun _ _ e => g _ _ e, fun _ _ _ e => g _ _ e⟩ fun m b hb => by
      have t' := s.hold.trk ⟨i, t, x, h1, h2, hb⟩
      cases e : H2 b with
      | none => exact absurd e t'
      | some o => exact g b o e
    exact s.hold.trk ⟨i, t, x, h1, h2, st.2 m b h3⟩ (f b hb)

abbrev D2 := PyData → PyData → Option PyData
abbrev DL := List PyData → Option PyData
def OpD (K : KW) (r : R2) (g : D2) : Prop := ∀ (x y : V) (H : Hp) (a b d : PyData) (Q : VK), Szs K H → Bq K H x a → Bq K H y b → g a b = some d → (∀ v H', Same H H' → Res K H H' v d → Q v H') → r x y H Q
def UnD (K : KW) (r : V → Hp → VK → Prop) (g : PyData → Option PyData) : Prop := ∀ (x : V) (H : Hp) (a d : PyData) (Q : VK), Szs K H → Bq K H x a → g a = some d → (∀ v H', Same H H' → Res K H H' v d → Q v H') → r x H Q
def CallD (K : KW) (r : List V → Hp → VK → Prop) (g : DL) : Prop := ∀ (xs : List V) (H : Hp) (ds : List PyData) (d : PyData) (Q : VK), Szs K H → Paired (Bq K H) xs ds → g ds = some d → (∀ v H', Same H H' → Res K H H' v d → Q v H') → r xs H Q
/-- the same with a new list -/
def CallO (K : KW) (r : List V → Hp → VK → Prop) (g : List PyData → Option (List PyData)) : Prop := ∀ (xs : List V) (H : Hp) (ds es : List PyData) (Q : VK), Szs K H → Paired (Bq K H) xs ds → g ds = some es →
  (∀ p ys H', Same H H' → H p = none → H' p = some (.lst ys) → RpA K H' ys es → Q (.ref p) H') → r xs H Q
def OpO (K : KW) (r : R2) (g : PyData → PyData → Option (List PyData)) : Prop := ∀ (x y : V) (H : Hp) (a b : PyData) (es : List PyData) (Q : VK), Szs K H → Bq K H x a → Bq K H y b → g a b = some es →
  (∀ p ys H', Same H H' → H p = none → H' p = some (.lst ys) → RpA K H' ys es → Q (.ref p) H') → r x y H Q

/-! ### the computations -/
def dC (d : PyData) : EM := fun ρ => some (.dat d, ρ)
def dVar (i : Nat) : EM := fun ρ => match ρ[i]? with
  | some .un => none
  | some _ => some (.sl i, ρ)
  | none => none
def rdAll (ρ : Rho) : List Ref → Option (List PyData)
  | [] => some []
  | r :: rs => (rd ρ r).bind fun d => (rdAll ρ rs).map (d :: ·)
def rNil : RM := fun ρ => some ([], ρ)
def rCons (m : EM) (n : RM) : RM := fun ρ => (m ρ).bind fun p => (n p.2).map fun q => (p.1 :: q.1, q.2)
def dBin (g : D2) (ma mb : EM) : EM := fun ρ => (ma ρ).bind fun p => (mb p.2).bind fun q => (rd q.2 p.1).bind fun a => (rd q.2 q.1).bind fun b => (g a b).map fun d => (.dat d, q.2)
def dUn (g : PyData → Option PyData) (ma : EM) : EM := fun ρ => (ma ρ).bind fun p => (rd p.2 p.1).bind fun a => (g a).map fun d => (.dat d, p.2)
def dCall (g : DL) (m : RM) : EM := fun ρ => (m ρ).bind fun p => (rdAll p.2 p.1).bind fun ds => (g ds).map fun d => (.dat d, p.2)
def oCall (g : List PyData → Option (List PyData)) (m : RM) : OM := fun ρ => (m ρ).bind fun p => (rdAll p.2 p.1).bind fun ds => (g ds).map fun d => (.lst d, p.2)
def oBin (g : PyData → PyData → Option (List PyData)) (ma mb : EM) : OM := fun ρ => (ma ρ).bind fun p => (mb p.2).bind fun q => (rd q.2 p.1).bind fun a => (rd q.2 q.1).bind fun b => (g a b).map fun d => (.lst d, q.2)
abbrev VsM := Rho → Option (List PyData × Rho)
def vNil : VsM := fun ρ => some ([], ρ)
def vCons (m : VM) (n : VsM) : VsM := fun ρ => (m ρ).bind fun p => (n p.2).map fun q => (p.1 :: q.1, q.2)
def vTup (m : VsM) : VM := fun ρ => (m ρ).bind fun p => if p.1.length ≤ sizeLine then some (.tuple p.1, p.2) else none
def oLst (m : VsM) : OM := fun ρ => (m ρ).bind fun p => if p.1.length ≤ sizeLine then some (.lst p.1, p.2) else none
def tVs (K : KW) (m : VsM) : TA := fun σ H Q => ∃ ρ ds ρ', Hold K ρ σ H ∧ m ρ = some (ds, ρ') ∧ ∀ vs H', Stp K ρ σ H ρ' σ H' → RpA K H' vs ds → Q vs H'
abbrev VSs (X : Cx) (es : List Expr) (m : VsM) : Prop := PA X es (tVs X.kw m)
/-- a test of a value that is a bool -/
def tBoo (m : EM) : TM := fun ρ => (m ρ).bind fun p => match rd p.2 p.1 with
  | some (.bool b) => some (b, p.2)
  | _ => none
def truD : PyData → Option Bool
  | .none => some false
  | .bool b => some b
  | .int i => some (i != 0)
  | .str y => if y.length ≤ sizeLine then some ((y.length : Int) != 0) else none
  | .list ds => some !ds.isEmpty
  | .tuple ds => some !ds.isEmpty
  | .dict _ => none
def tTru (m : EM) : TM := fun ρ => (m ρ).bind fun p => (rd p.2 p.1).bind fun d => (truD d).map fun b => (b, p.2)
def tAndM (m n : TM) : TM := fun ρ => (m ρ).bind fun p => if p.1 = true then n p.2 else some (false, p.2)
def tOrM (m n : TM) : TM := fun ρ => (m ρ).bind fun p => if p.1 = true then some (true, p.2) else n p.2
def tNotM (m : TM) : TM := fun ρ => (m ρ).map fun p => (!p.1, p.2)
def dIf (t : TM) (m n : EM) : EM := fun ρ => (t ρ).bind fun p => if p.1 = true then m p.2 else n p.2
def vIf (t : TM) (m n : VM) : VM := fun ρ => (t ρ).bind fun p => if p.1 = true then m p.2 else n p.2
def oIf (t : TM) (m n : OM) : OM := fun ρ => (t ρ).bind fun p => if p.1 = true then m p.2 else n p.2
/-- bools joined by values -/
def dAnd (m n : EM) : EM := fun ρ => (m ρ).bind fun p => match rd p.2 p.1 with
  | some (.bool b) => if b = true then n p.2 else some (.dat (.bool false), p.2)
  | _ => none
def dOr (m n : EM) : EM := fun ρ => (m ρ).bind fun p => match rd p.2 p.1 with
  | some (.bool b) => if b = true then some (.dat (.bool true), p.2) else n p.2
  | _ => none
def dNot (m : EM) : EM := fun ρ => (m ρ).bind fun p => match rd p.2 p.1 with
  | some (.bool b) => some (.dat (.bool !b), p.2)
  | _ => none
def isNo : PyData → Bool
  | .none => true
  | _ => false
def dIsN (m : EM) : EM := fun ρ => (m ρ).bind fun p => (rd p.2 p.1).map fun d => (.dat (.bool (isNo d)), p.2)
def dNotN (m : EM) : EM := fun ρ => (m ρ).bind fun p => (rd p.2 p.1).map fun d => (.dat (.bool (!isNo d)), p.2)
/-- a chain of two comparisons -/
def dChain (g g' : D2) (ma mb mc : EM) : EM := fun ρ => (ma ρ).bind fun p => (mb p.2).bind fun q => (rd q.2 p.1).bind fun a => (rd q.2 q.1).bind fun b => match g a b with
  | some (.bool k) => if k = true then (mc q.2).bind fun r => (rd r.2 q.1).bind fun b' => (rd r.2 r.1).bind fun c => (g' b' c).map fun d => (.dat d, r.2) else some (.dat (.bool false), q.2)
  | _ => none

section
variable {X : Cx} {e a b c : Expr} {es : List Expr} {pos : Pos} {ma mb mc : EM}
theorem rdAll_bq {K : KW} {ρ : Rho} {σ : L2.St} {H : Hp} (h : Hold K ρ σ H) : ∀ {vs : List V} {rs : List Ref} {ds : List PyData}, RefsOk K σ H vs rs → rdAll ρ rs = some ds → Paired (Bq K H) vs ds
  | _, _, _, .nil, e => by cases e; exact .nil
  | _, _, _, .cons r t, e => by
    unfold rdAll at e
    obtain ⟨d, e1, e2⟩ := Option.bind_eq_some_iff.mp e
    obtain ⟨ds, e3, rfl⟩ := Option.map_eq_some_iff.mp e2
    exact .cons (rd_bq h r e1) (rdAll_bq h t e3)
theorem refs_stb {K : KW} {σ : L2.St} {H H' : Hp} (st : Stb H H') {vs : List V} {rs : List Ref} (h : RefsOk K σ H vs rs) : RefsOk K σ H' vs rs := L2.Paired.mapP h fun _ _ r => r.stb st

theorem re_c {t : TE} {v : V} {d : PyData} (h : PE X e (tC v)) (rp : ∀ H, Rp X.kw H v d) : RE X e (dC d) := by
  refine pem h fun σ H Q ⟨ρ, r, ρ', hh, em, k⟩ => ?_
  cases em
  exact k v H (.refl hh) (rp H)
theorem re_int {i : Int} {j} : RE X (.Constant (.int i) j pos) (dC (.int i)) := re_c (t := tC (.int i)) pe_int fun _ => .int i
theorem re_str {x : Str} {j} : RE X (.Constant (.str x) j pos) (dC (.str x)) := re_c (t := tC (.str x)) pe_str fun _ => .str x
theorem re_bl {x : Bool} {j} : RE X (.Constant (.bool x) j pos) (dC (.bool x)) := re_c (t := tC (.bl x)) pe_bl fun _ => .bl x
theorem re_non {j} : RE X (.Constant .none j pos) (dC .none) := re_c (t := tC .non) pe_non fun _ => .non
theorem re_var (i : Nat) {x : Str} (hN : X.N[i]? = some x := by rfl) (hv : Vis X.env.scope x := by first | exact Or.inl rfl | exact Or.inr (Or.inl rfl) | exact Or.inr (Or.inr rfl)) (hd : (x == ("__debug__" : Str)) = false := by decide)
    (hcd : (x == ("__classdict__" : Str)) = false := by decide) : RE X (.Name x pos) (dVar i) := by
  refine pem (pe_var hN hv hd hcd) fun σ H Q ⟨ρ, r, ρ', hh, em, k⟩ => ?_
  unfold dVar at em
  cases q : ρ[i]? with
  | none => rw [q] at em; cases em
  | some s =>
    rw [q] at em
    have hi : i < σ.length := by rw [hh.len]; exact (List.getElem?_eq_some_iff.mp q).1
    have ok := hh.ok i s _ q (List.getElem?_eq_getElem hi)
    have get : ∀ v : V, σ[i] = some v → tVar i σ H Q ∨ True → some (Ref.sl i, ρ) = some (r, ρ') → tVar i σ H Q := fun v ev _ e => by
      cases e
      have hs : σ[i]? = some (some v) := by rw [List.getElem?_eq_getElem hi, ev]
      exact ⟨v, hs, k v H (.refl hh) hs⟩
    cases s with
    | un => cases em
    | val d => obtain ⟨v, ev, _⟩ := ok; exact get v ev (.inr trivial) em
    | own o => obtain ⟨v, ev, _⟩ := ok; exact get v ev (.inr trivial) em
    | io o => obtain ⟨v, ev, _⟩ := ok; exact get v ev (.inr trivial) em
theorem re_op {r : R2} {g : D2} {e : Expr} (h : ∀ {ta tb : TE}, PE X a ta → PE X b tb → PE X e (tOp r ta tb)) (hd : OpD X.kw r g) (ha : RE X a ma) (hb : RE X b mb) : RE X e (dBin g ma mb) := by
  refine pem (pe_gh (h ha hb)) fun σ H Q ⟨ρ, r', ρ', hh, em, k⟩ => ?_
  obtain ⟨⟨ra, ρ1⟩, e1, em⟩ := Option.bind_eq_some_iff.mp em
  obtain ⟨⟨rb, ρ2⟩, e2, em⟩ := Option.bind_eq_some_iff.mp em
  obtain ⟨da, e3, em⟩ := Option.bind_eq_some_iff.mp em
  obtain ⟨db, e4, em⟩ := Option.bind_eq_some_iff.mp em
  obtain ⟨d, e5, em⟩ := Option.map_eq_some_iff.mp em
  cases em
  exact ⟨ρ, ra, ρ1, hh, e1, fun x H1 s1 ok1 => ⟨ρ1, rb, ρ2, s1.hold, e2, fun y H2 s2 ok2 =>
    hd x y H2 da db d _ s2.hold.sz (rd_bq s2.hold (ok1.stb s2.stb) e3) (rd_bq s2.hold ok2 e4) e5 fun v H3 gr rs => res_run (s1.trans s2) gr rs fun H4 s4 rp => k v H4 s4 rp⟩⟩
theorem re_bin {op : Operator} {r : R2} {g : D2} (ho : OpR X (binaryOp op) r) (hd : OpD X.kw r g) (ha : RE X a ma) (hb : RE X b mb) : RE X (.BinOp a op b pos) (dBin g ma mb) := re_op (fun h1 h2 => pe_op ho h1 h2) hd ha hb
theorem re_cmp {op : CmpOp} {r : R2} {g : D2} (ho : OpR X (compareOp op) r) (hd : OpD X.kw r g) (ha : RE X a ma) (hb : RE X b mb) (hm : behindInMarks op b = false := by rfl) : RE X (.Compare a [op] [b] pos) (dBin g ma mb) := re_op (fun h1 h2 => pe_cmpR ho h1 h2 hm) hd ha hb
theorem re_ix {r : R2} {g : D2} (hr : IxR X r) (hd : OpD X.kw r g) (ha : RE X a ma) (hb : RE X b mb) (hs : PlainIx b := by exact fun _ _ => rfl) : RE X (.Subscript a b pos) (dBin g ma mb) := re_op (fun h1 h2 => pe_ix hr h1 h2 hs) hd ha hb
theorem oe_bin {op : Operator} {r : R2} {g : PyData → PyData → Option (List PyData)} (ho : OpR X (binaryOp op) r) (hd : OpO X.kw r g) (ha : RE X a ma) (hb : RE X b mb) : OE X (.BinOp a op b pos) (oBin g ma mb) := by
  refine pem (pe_gh (pe_op ho ha hb)) fun σ H Q ⟨ρ, r', ρ', hh, em, k⟩ => ?_
  obtain ⟨⟨ra, ρ1⟩, e1, em⟩ := Option.bind_eq_some_iff.mp em
  obtain ⟨⟨rb, ρ2⟩, e2, em⟩ := Option.bind_eq_some_iff.mp em
  obtain ⟨da, e3, em⟩ := Option.bind_eq_some_iff.mp em
  obtain ⟨db, e4, em⟩ := Option.bind_eq_some_iff.mp em
  obtain ⟨d, e5, em⟩ := Option.map_eq_some_iff.mp em
  cases em
  refine ⟨ρ, ra, ρ1, hh, e1, fun x H1 s1 ok1 => ⟨ρ1, rb, ρ2, s1.hold, e2, fun y H2 s2 ok2 =>
    hd x y H2 da db d _ s2.hold.sz (rd_bq s2.hold (ok1.stb s2.stb) e3) (rd_bq s2.hold ok2 e4) e5 fun p ys H3 gr np hp ra z => .inl ?_⟩⟩
  obtain ⟨s4, n4⟩ := newo_run (o := .lst d) (s1.trans s2) gr z ⟨p, ys, rfl, hp, ra⟩ (fun b hb => by cases hb; exact np)
  exact k _ _ s4 n4
theorem re_un {op : UnaryOp} {r : V → Hp → VK → Prop} {g : PyData → Option PyData} (ho : UnR X (unaryOp op) r) (hd : UnD X.kw r g) (ha : RE X a ma) : RE X (.UnaryOp op a pos) (dUn g ma) := by
  refine pem (pe_gh (pe_un ho ha)) fun σ H Q ⟨ρ, r', ρ', hh, em, k⟩ => ?_
  obtain ⟨⟨ra, ρ1⟩, e1, em⟩ := Option.bind_eq_some_iff.mp em
  obtain ⟨da, e3, em⟩ := Option.bind_eq_some_iff.mp em
  obtain ⟨d, e5, em⟩ := Option.map_eq_some_iff.mp em
  cases em
  exact ⟨ρ, ra, ρ1, hh, e1, fun x H1 s1 ok1 => hd x H1 da d _ s1.hold.sz (rd_bq s1.hold ok1 e3) e5 fun v H3 gr rs => res_run s1 gr rs fun H4 s4 rp => k v H4 s4 rp⟩
/-! ### arguments -/
theorem rs_nil : RS X [] rNil := by
  refine pam pa_nil fun σ H Q ⟨ρ, r, ρ', hh, em, k⟩ => ?_
  cases em
  exact k [] H (.refl hh) .nil
theorem rs_cons {m : EM} {n : RM} (he : RE X e m) (hr : RS X es n) (hs : starEach (e :: es) X.env = (false, eval e X.env) :: starEach es X.env := by rfl) : RS X (e :: es) (rCons m n) := by
  refine pam (pa_cons he hr hs) fun σ H Q ⟨ρ, r, ρ', hh, em, k⟩ => ?_
  obtain ⟨⟨ra, ρ1⟩, e1, em⟩ := Option.bind_eq_some_iff.mp em
  obtain ⟨⟨rs, ρ2⟩, e2, em⟩ := Option.map_eq_some_iff.mp em
  cases em
  exact ⟨ρ, ra, ρ1, hh, e1, fun x H1 s1 ok1 => ⟨ρ1, rs, ρ2, s1.hold, e2, fun xs H2 s2 ok2 => k (x :: xs) H2 (s1.trans s2) (.cons (ok1.stb s2.stb) ok2)⟩⟩
theorem vs_nil : VSs X [] vNil := by
  refine pam pa_nil fun σ H Q ⟨ρ, r, ρ', hh, em, k⟩ => ?_
  cases em
  exact k [] H (.refl hh) .nil
theorem vs_cons {m : VM} {n : VsM} (he : VE X e m) (hr : VSs X es n) (hs : starEach (e :: es) X.env = (false, eval e X.env) :: starEach es X.env := by rfl) : VSs X (e :: es) (vCons m n) := by
  refine pam (pa_cons he hr hs) fun σ H Q ⟨ρ, r, ρ', hh, em, k⟩ => ?_
  obtain ⟨⟨ra, ρ1⟩, e1, em⟩ := Option.bind_eq_some_iff.mp em
  obtain ⟨⟨rs, ρ2⟩, e2, em⟩ := Option.map_eq_some_iff.mp em
  cases em
  exact ⟨ρ, ra, ρ1, hh, e1, fun x H1 s1 ok1 => ⟨ρ1, rs, ρ2, s1.hold, e2, fun xs H2 s2 ok2 => k (x :: xs) H2 (s1.trans s2) (.cons (ok1.stb s2.stb) ok2)⟩⟩
theorem ve_tup {x1} {m : VsM} (h : VSs X es m) : VE X (.Tuple es x1 pos) (vTup m) := by
  refine pem (pe_gh (pe_tup (x1 := x1) h)) fun σ H Q ⟨ρ, d, ρ', hh, em, k⟩ => ?_
  obtain ⟨⟨ds, ρ1⟩, e1, em⟩ := Option.bind_eq_some_iff.mp em
  by_cases hl : ds.length ≤ sizeLine
  · rw [if_pos hl] at em
    cases em
    refine ⟨ρ, ds, ρ1, hh, e1, fun vs H1 s1 ra => ⟨by rw [ra.length]; exact hl, fun p np z => .inl ?_⟩⟩
    have s2 := s1.trans (s1.hold.grow (same_new np) z)
    refine k _ _ s2 (.tup (.inl (.inl upd_same)) (ra.stb ⟨fun b ys q => same_new np _ _ q, fun b o w q => same_new np _ _ q⟩))
  · rw [if_neg hl] at em; cases em
theorem oe_lst {m : VsM} (h : VSs X es m) : OE X (.List es pos) (oLst m) := by
  refine pem (pe_gh (pe_lst h)) fun σ H Q ⟨ρ, d, ρ', hh, em, k⟩ => ?_
  obtain ⟨⟨ds, ρ1⟩, e1, em⟩ := Option.bind_eq_some_iff.mp em
  by_cases hl : ds.length ≤ sizeLine
  · rw [if_pos hl] at em
    cases em
    refine ⟨ρ, ds, ρ1, hh, e1, fun vs H1 s1 ra => ⟨by rw [ra.length]; exact hl, fun p np z => .inl ?_⟩⟩
    obtain ⟨s4, n4⟩ := newo_run (o := .lst ds) s1 (same_new np) z ⟨p, vs, rfl, upd_same, ra.stb ⟨fun b ys q => same_new np _ _ q, fun b o w q => same_new np _ _ q⟩⟩ (fun b hb => by cases hb; exact np)
    exact k _ _ s4 n4
  · rw [if_neg hl] at em; cases em
/-! ### calls of built-ins -/
theorem re_callR {r : List V → Hp → VK → Prop} {g : DL} {m : RM} {t : TE} (h : PE X e t) (ht : t = tCB r (tRs X.kw m)) (hd : CallD X.kw r g) : RE X e (dCall g m) := by
  subst ht
  refine pem (pe_gh h) fun σ H Q ⟨ρ, r', ρ', hh, em, k⟩ => ?_
  obtain ⟨⟨rs, ρ1⟩, e1, em⟩ := Option.bind_eq_some_iff.mp em
  obtain ⟨ds, e3, em⟩ := Option.bind_eq_some_iff.mp em
  obtain ⟨d, e5, em⟩ := Option.map_eq_some_iff.mp em
  cases em
  exact ⟨ρ, rs, ρ1, hh, e1, fun xs H1 s1 ok1 => hd xs H1 ds d _ s1.hold.sz (rdAll_bq s1.hold ok1 e3) e5 fun v H3 gr rs => res_run s1 gr rs fun H4 s4 rp => k v H4 s4 rp⟩
theorem oe_callR {r : List V → Hp → VK → Prop} {g : List PyData → Option (List PyData)} {m : RM} {t : TE} (h : PE X e t) (ht : t = tCB r (tRs X.kw m)) (hd : CallO X.kw r g) : OE X e (oCall g m) := by
  subst ht
  refine pem (pe_gh h) fun σ H Q ⟨ρ, r', ρ', hh, em, k⟩ => ?_
  obtain ⟨⟨rs, ρ1⟩, e1, em⟩ := Option.bind_eq_some_iff.mp em
  obtain ⟨ds, e3, em⟩ := Option.bind_eq_some_iff.mp em
  obtain ⟨d, e5, em⟩ := Option.map_eq_some_iff.mp em
  cases em
  refine ⟨ρ, rs, ρ1, hh, e1, fun xs H1 s1 ok1 => hd xs H1 ds d _ s1.hold.sz (rdAll_bq s1.hold ok1 e3) e5 fun p ys H3 gr np hp ra z => .inl ?_⟩
  obtain ⟨s4, n4⟩ := newo_run (o := .lst d) s1 gr z ⟨p, ys, rfl, hp, ra⟩ (fun b hb => by cases hb; exact np)
  exact k _ _ s4 n4
/-! ### tests -/
theorem bt_bool (h : RE X e ma) (he : ∀ whole, isTrue e X.env whole = (do let v ← whole; standAt e.pos; holding [v] (truthy v)) := by intro _; rfl) : BT X e (tBoo ma) := by
  refine ptm (pt_val h he) fun σ H Q ⟨ρ, b, ρ', hh, em, k⟩ => ?_
  obtain ⟨⟨r, ρ1⟩, e1, em⟩ := Option.bind_eq_some_iff.mp em
  dsimp only at em
  cases q : rd ρ1 r with
  | none => rw [q] at em; cases em
  | some d =>
    rw [q] at em
    cases d with
    | bool k' =>
      cases em
      exact ⟨ρ, r, ρ', hh, e1, fun v H1 s1 ok => ⟨b, (rd_bq s1.hold ok q).bool, k H1 s1⟩⟩
    | _ => cases em
theorem bt_cmp {op : CmpOp} {r : R2} {g : D2} (ho : OpR X (compareOp op) r) (hd : OpD X.kw r g) (ha : RE X a ma) (hb : RE X b mb) (hm : behindInMarks op b = false := by rfl) : BT X (.Compare a [op] [b] pos) (tBoo (dBin g ma mb)) := by
  refine ptm (pt_gh (pt_cmpR ho ha hb hm)) fun σ H Q ⟨ρ, b', ρ', hh, em, k⟩ => ?_
  obtain ⟨⟨r', ρ9⟩, em, eb⟩ := Option.bind_eq_some_iff.mp em
  obtain ⟨⟨ra, ρ1⟩, e1, em⟩ := Option.bind_eq_some_iff.mp em
  obtain ⟨⟨rb, ρ2⟩, e2, em⟩ := Option.bind_eq_some_iff.mp em
  obtain ⟨da, e3, em⟩ := Option.bind_eq_some_iff.mp em
  obtain ⟨db, e4, em⟩ := Option.bind_eq_some_iff.mp em
  obtain ⟨d, e5, em⟩ := Option.map_eq_some_iff.mp em
  cases em
  dsimp only [rd] at eb
  cases d with
  | bool b2 =>
    cases eb
    refine ⟨ρ, ra, ρ1, hh, e1, fun x H1 s1 ok1 => ⟨ρ1, rb, _, s1.hold, e2, fun y H2 s2 ok2 =>
      hd x y H2 da db _ _ s2.hold.sz (rd_bq s2.hold (ok1.stb s2.stb) e3) (rd_bq s2.hold ok2 e4) e5 fun v H3 gr rs => ⟨_, ?_, fun z => .inl (k H3 ((s1.trans s2).trans (s2.hold.grow gr z)))⟩⟩⟩
    rcases rs with rp | ⟨_, _, _, _, e, _⟩
    · cases rp; rfl
    · cases e
  | _ => cases eb
theorem tru_d {K : KW} {H : Hp} {v : V} {d : PyData} {b : Bool} (h : Bq K H v d) (e : truD d = some b) : TruV K.K v H b := by
  cases d with
  | none => cases e; rw [h.none]; rfl
  | bool k => cases e; rw [h.bool]; rfl
  | int i => cases e; rw [h.int]; rfl
  | str y =>
    have e : (if y.length ≤ sizeLine then some ((y.length : Int) != 0) else none) = some b := e
    by_cases hl : y.length ≤ sizeLine
    · rw [if_pos hl] at e; cases e; rw [h.str]; exact ⟨hl, rfl⟩
    · rw [if_neg hl] at e; cases e
  | list ds =>
    cases e
    obtain ⟨a, xs, rfl, s, q⟩ := h.list
    refine .inl ⟨xs, s, ?_⟩
    cases q <;> rfl
  | tuple ds =>
    cases e
    obtain ⟨a, xs, rfl, s, q⟩ := h.tuple
    refine .inr (.inl ⟨xs, s, ?_⟩)
    cases q <;> rfl
  | dict _ => cases e
theorem bt_tru (h : RE X e ma) (he : ∀ whole, isTrue e X.env whole = (do let v ← whole; standAt e.pos; holding [v] (truthy v)) := by intro _; rfl) : BT X e (tTru ma) := by
  refine ptm (pt_truth h he) fun σ H Q ⟨ρ, b, ρ', hh, em, k⟩ => ?_
  obtain ⟨⟨r, ρ1⟩, e1, em⟩ := Option.bind_eq_some_iff.mp em
  obtain ⟨d, e2, em⟩ := Option.bind_eq_some_iff.mp em
  obtain ⟨b', e3, em⟩ := Option.map_eq_some_iff.mp em
  cases em
  exact ⟨ρ, r, _, hh, e1, fun v H1 s1 ok => ⟨b, tru_d (rd_bq s1.hold ok e2) e3, k H1 s1⟩⟩
theorem bt_not {m : TM} (h : BT X a m) : BT X (.UnaryOp .Not a pos) (tNotM m) := by
  refine ptm (pt_not h) fun σ H Q ⟨ρ, b, ρ', hh, em, k⟩ => ?_
  obtain ⟨⟨b', ρ1⟩, e1, em⟩ := Option.map_eq_some_iff.mp em
  cases em
  exact ⟨ρ, _, _, hh, e1, fun H1 s1 => k H1 s1⟩
abbrev BW (X : Cx) (e : Expr) (m : TM) : Prop := PW X e (tT X.kw m)
theorem bw_and1 {m : TM} (h : BT X a m) : BW X (.BoolOp .And [a] pos) m := pw_and1 h
theorem bw_or1 {m : TM} (h : BT X a m) : BW X (.BoolOp .Or [a] pos) m := pw_or1 h
theorem bw_and {m n : TM} (h : BT X a m) (h2 : BW X (.BoolOp .And (b :: es) pos) n) : BW X (.BoolOp .And (a :: b :: es) pos) (tAndM m n) := by
  refine pwm (pw_and h h2) fun σ H Q ⟨ρ, b, ρ', hh, em, k⟩ => ?_
  obtain ⟨⟨b', ρ1⟩, e1, em⟩ := Option.bind_eq_some_iff.mp em
  refine ⟨ρ, b', ρ1, hh, e1, fun H1 s1 => ?_⟩
  cases b' with
  | true =>
    simp only [if_true] at em ⊢
    exact ⟨ρ1, b, ρ', s1.hold, em, fun H2 s2 => k H2 (s1.trans s2)⟩
  | false =>
    simp only [Bool.false_eq_true, if_false] at em ⊢
    cases em
    exact k H1 s1
theorem bw_or {m n : TM} (h : BT X a m) (h2 : BW X (.BoolOp .Or (b :: es) pos) n) : BW X (.BoolOp .Or (a :: b :: es) pos) (tOrM m n) := by
  refine pwm (pw_or h h2) fun σ H Q ⟨ρ, b, ρ', hh, em, k⟩ => ?_
  obtain ⟨⟨b', ρ1⟩, e1, em⟩ := Option.bind_eq_some_iff.mp em
  refine ⟨ρ, b', ρ1, hh, e1, fun H1 s1 => ?_⟩
  cases b' with
  | false =>
    simp only [Bool.false_eq_true, if_false] at em ⊢
    exact ⟨ρ1, b, ρ', s1.hold, em, fun H2 s2 => k H2 (s1.trans s2)⟩
  | true =>
    simp only [if_true] at em ⊢
    cases em
    exact k H1 s1
theorem bt_w {m : TM} (h : BW X e m) : BT X e m := PW.pt h
/-! ### if, and, or, not as values -/
theorem re_if {m : TM} (ht : BT X c m) (ha : RE X a ma) (hb : RE X b mb) : RE X (.IfExp c a b pos) (dIf m ma mb) := by
  refine pem (pe_ifExp ht ha hb) fun σ H Q ⟨ρ, r, ρ', hh, em, k⟩ => ?_
  obtain ⟨⟨b', ρ1⟩, e1, em⟩ := Option.bind_eq_some_iff.mp em
  refine ⟨ρ, b', ρ1, hh, e1, fun H1 s1 => ?_⟩
  cases b' with
  | false =>
    simp only [Bool.false_eq_true, if_false] at em ⊢
    exact ⟨ρ1, r, ρ', s1.hold, em, fun v H2 s2 ok => k v H2 (s1.trans s2) ok⟩
  | true =>
    simp only [if_true] at em ⊢
    exact ⟨ρ1, r, ρ', s1.hold, em, fun v H2 s2 ok => k v H2 (s1.trans s2) ok⟩
theorem ve_if {m : TM} {ma mb : VM} (ht : BT X c m) (ha : VE X a ma) (hb : VE X b mb) : VE X (.IfExp c a b pos) (vIf m ma mb) := by
  refine pem (pe_ifExp ht ha hb) fun σ H Q ⟨ρ, r, ρ', hh, em, k⟩ => ?_
  obtain ⟨⟨b', ρ1⟩, e1, em⟩ := Option.bind_eq_some_iff.mp em
  refine ⟨ρ, b', ρ1, hh, e1, fun H1 s1 => ?_⟩
  cases b' with
  | false =>
    simp only [Bool.false_eq_true, if_false] at em ⊢
    exact ⟨ρ1, r, ρ', s1.hold, em, fun v H2 s2 ok => k v H2 (s1.trans s2) ok⟩
  | true =>
    simp only [if_true] at em ⊢
    exact ⟨ρ1, r, ρ', s1.hold, em, fun v H2 s2 ok => k v H2 (s1.trans s2) ok⟩
theorem NewO.back {K : KW} {ρ ρ1 ρ' : Rho} {σ : L2.St} {H H1 H2 : Hp} {v : V} {o : Own} (n : NewO K ρ' σ H1 H2 v o) (s : Stp K ρ σ H ρ1 σ H1) : NewO K ρ' σ H H2 v o :=
  ⟨n.rep, fun b hb => ⟨by
    cases e : H b with
    | none => rfl
    | some u => exact absurd (n.new b hb).1 (s.trk b (by rw [e]; simp)), (n.new b hb).2⟩⟩
theorem oe_if {m : TM} {ma mb : OM} (ht : BT X c m) (ha : OE X a ma) (hb : OE X b mb) : OE X (.IfExp c a b pos) (oIf m ma mb) := by
  refine pem (pe_ifExp ht ha hb) fun σ H Q ⟨ρ, r, ρ', hh, em, k⟩ => ?_
  obtain ⟨⟨b', ρ1⟩, e1, em⟩ := Option.bind_eq_some_iff.mp em
  refine ⟨ρ, b', ρ1, hh, e1, fun H1 s1 => ?_⟩
  cases b' with
  | false =>
    simp only [Bool.false_eq_true, if_false] at em ⊢
    exact ⟨ρ1, r, ρ', s1.hold, em, fun v H2 s2 ok => k v H2 (s1.trans s2) (ok.back s1)⟩
  | true =>
    simp only [if_true] at em ⊢
    exact ⟨ρ1, r, ρ', s1.hold, em, fun v H2 s2 ok => k v H2 (s1.trans s2) (ok.back s1)⟩
theorem re_one {op} (h : RE X a ma) : RE X (.BoolOp op [a] pos) ma := pe_one h
theorem re_and (h : RE X a ma) (h2 : RE X (.BoolOp .And (b :: es) pos) mb) : RE X (.BoolOp .And (a :: b :: es) pos) (dAnd ma mb) := by
  refine pem (pe_and h h2) fun σ H Q ⟨ρ, r, ρ', hh, em, k⟩ => ?_
  obtain ⟨⟨ra, ρ1⟩, e1, em⟩ := Option.bind_eq_some_iff.mp em
  dsimp only at em
  cases q : rd ρ1 ra with
  | none => rw [q] at em; cases em
  | some d =>
    rw [q] at em
    cases d with
    | bool b' =>
      refine ⟨ρ, ra, ρ1, hh, e1, fun x H1 s1 ok1 => ⟨b', (rd_bq s1.hold ok1 q).bool, ?_⟩⟩
      cases b' with
      | false =>
        simp only [Bool.false_eq_true, if_false] at em ⊢
        cases em
        exact k _ _ s1 (.bl false)
      | true =>
        simp only [if_true] at em ⊢
        exact ⟨ρ1, r, ρ', s1.hold, em, fun v H2 s2 ok => k v H2 (s1.trans s2) ok⟩
    | _ => cases em
theorem re_or (h : RE X a ma) (h2 : RE X (.BoolOp .Or (b :: es) pos) mb) : RE X (.BoolOp .Or (a :: b :: es) pos) (dOr ma mb) := by
  refine pem (pe_or h h2) fun σ H Q ⟨ρ, r, ρ', hh, em, k⟩ => ?_
  obtain ⟨⟨ra, ρ1⟩, e1, em⟩ := Option.bind_eq_some_iff.mp em
  dsimp only at em
  cases q : rd ρ1 ra with
  | none => rw [q] at em; cases em
  | some d =>
    rw [q] at em
    cases d with
    | bool b' =>
      refine ⟨ρ, ra, ρ1, hh, e1, fun x H1 s1 ok1 => ⟨b', (rd_bq s1.hold ok1 q).bool, ?_⟩⟩
      cases b' with
      | true =>
        simp only [if_true] at em ⊢
        cases em
        exact k _ _ s1 (.bl true)
      | false =>
        simp only [Bool.false_eq_true, if_false] at em ⊢
        exact ⟨ρ1, r, ρ', s1.hold, em, fun v H2 s2 ok => k v H2 (s1.trans s2) ok⟩
    | _ => cases em
theorem re_not (h : RE X a ma) : RE X (.UnaryOp .Not a pos) (dNot ma) := by
  refine pem (pe_not h) fun σ H Q ⟨ρ, r, ρ', hh, em, k⟩ => ?_
  obtain ⟨⟨ra, ρ1⟩, e1, em⟩ := Option.bind_eq_some_iff.mp em
  dsimp only at em
  cases q : rd ρ1 ra with
  | none => rw [q] at em; cases em
  | some d =>
    rw [q] at em
    cases d with
    | bool b' =>
      cases em
      exact ⟨ρ, ra, _, hh, e1, fun x H1 s1 ok1 => ⟨b', (rd_bq s1.hold ok1 q).bool, k _ _ s1 (.bl _)⟩⟩
    | _ => cases em
theorem isn_d {K : KW} {H : Hp} {v : V} {d : PyData} (h : Bq K H v d) : decide (v = .non) = (isNo d) := by
  cases d with
  | none => rw [h.none]; rfl
  | bool k => rw [h.bool]; rfl
  | int i => rw [h.int]; rfl
  | str y => rw [h.str]; rfl
  | list ds => obtain ⟨a, xs, rfl, s, q⟩ := h.list; rfl
  | tuple ds => obtain ⟨a, xs, rfl, s, q⟩ := h.tuple; rfl
  | dict _ =>
    rcases h with h | ⟨_, _, _, _, e, _⟩
    · cases h
    · cases e
theorem re_isn {j pos'} (h : RE X a ma) : RE X (.Compare a [.Is] [.Constant .none j pos'] pos) (dIsN ma) := by
  refine pem (pe_cmp (pc_isN h)) fun σ H Q ⟨ρ, r, ρ', hh, em, k⟩ => ?_
  obtain ⟨⟨ra, ρ1⟩, e1, em⟩ := Option.bind_eq_some_iff.mp em
  obtain ⟨d, e2, em⟩ := Option.map_eq_some_iff.mp em
  cases em
  refine ⟨ρ, ra, _, hh, e1, fun x H1 s1 ok1 => ?_⟩
  dsimp only
  rw [isn_d (rd_bq s1.hold ok1 e2)]
  exact k _ _ s1 (.bl _)
theorem re_notn {j pos'} (h : RE X a ma) : RE X (.Compare a [.IsNot] [.Constant .none j pos'] pos) (dNotN ma) := by
  refine pem (pe_cmp (pc_notN h)) fun σ H Q ⟨ρ, r, ρ', hh, em, k⟩ => ?_
  obtain ⟨⟨ra, ρ1⟩, e1, em⟩ := Option.bind_eq_some_iff.mp em
  obtain ⟨d, e2, em⟩ := Option.map_eq_some_iff.mp em
  cases em
  refine ⟨ρ, ra, _, hh, e1, fun x H1 s1 ok1 => ?_⟩
  dsimp only
  rw [isn_d (rd_bq s1.hold ok1 e2)]
  exact k _ _ s1 (.bl _)
end
end Vx
/-! Vx4: statements over data trees: assignments, if, for, while, return. -/
namespace Vx
open PySem PySem.Spec L2

inductive Rv where
  | val (d : PyData)
  | own (o : Own)
inductive Fl where
  | nx | bk | ct
  | rt (r : Rv)
abbrev SM := Rho → Option (Fl × Rho)
def RvOk (K : KW) (ρ : Rho) (σ : L2.St) (H : Hp) (ρ' : Rho) (σ' : L2.St) (H' : Hp) (v : V) : Rv → Prop
  | .val d => Rp K H' v d
  | .own o => ownRep K H' v o ∧ ∀ b, ownFt v H' o b → (H b = none ∨ owned false ρ σ H b) ∧ ∀ m, ¬ owned m ρ' σ' H' b
theorem RvOk.back {K : KW} {ρ ρ1 ρ' : Rho} {σ σ1 σ' : L2.St} {H H1 H' : Hp} {v : V} {r : Rv} (h : RvOk K ρ1 σ1 H1 ρ' σ' H' v r) (s : Stp K ρ σ H ρ1 σ1 H1) : RvOk K ρ σ H ρ' σ' H' v r := by
  cases r with
  | val d => exact h
  | own o =>
    refine ⟨h.1, fun b hb => ⟨?_, (h.2 b hb).2⟩⟩
    rcases (h.2 b hb).1 with z | z
    · left
      cases e : H b with
      | none => rfl
      | some u => exact absurd z (s.trk b (by rw [e]; simp))
    · exact (s.fresh false b z).elim .inr .inl
def Fin (K : KW) (D : Ends) (ρ : Rho) (σ : L2.St) (H : Hp) (ρ' : Rho) : Fl → Prop
  | .nx => ∀ σ' H', Stp K ρ σ H ρ' σ' H' → D.nx σ' H'
  | .bk => ∀ σ' H', Stp K ρ σ H ρ' σ' H' → D.bk σ' H'
  | .ct => ∀ σ' H', Stp K ρ σ H ρ' σ' H' → D.ct σ' H'
  | .rt r => ∀ v σ' H', Stp K ρ σ H ρ' σ' H' → RvOk K ρ σ H ρ' σ' H' v r → D.rt v H'
theorem Fin.back {K : KW} {D : Ends} {ρ ρ1 ρ' : Rho} {σ σ1 : L2.St} {H H1 : Hp} {f : Fl} (h : Fin K D ρ σ H ρ' f) (s : Stp K ρ σ H ρ1 σ1 H1) : Fin K D ρ1 σ1 H1 ρ' f := by
  cases f with
  | nx => exact fun σ' H' s' => h σ' H' (s.trans s')
  | bk => exact fun σ' H' s' => h σ' H' (s.trans s')
  | ct => exact fun σ' H' s' => h σ' H' (s.trans s')
  | rt r => exact fun v σ' H' s' ok => h v σ' H' (s.trans s') (ok.back s)
def tS (K : KW) (m : SM) : TS := fun D σ H => ∃ ρ f ρ', Hold K ρ σ H ∧ m ρ = some (f, ρ') ∧ Fin K D ρ σ H ρ' f
abbrev SE (X : Cx) (st : Stmt) (m : SM) : Prop := PS X st (tS X.kw m)
abbrev SEs (X : Cx) (st : List Stmt) (m : SM) : Prop := PSs X st (tS X.kw m)

def sNil : SM := fun ρ => some (.nx, ρ)
def sSeq (m n : SM) : SM := fun ρ => (m ρ).bind fun p => match p.1 with
  | .nx => n p.2
  | f => some (f, p.2)
def sIf (t : TM) (m n : SM) : SM := fun ρ => (t ρ).bind fun p => if p.1 = true then m p.2 else n p.2
def sRet (m : VM) : SM := fun ρ => (m ρ).map fun p => (.rt (.val p.1), p.2)
def sRetO (m : OM) : SM := fun ρ => (m ρ).map fun p => (.rt (.own p.1), p.2)
def sRetV (i : Nat) : SM := fun ρ => match ρ[i]? with
  | some (.own o) => some (.rt (.own o), ρ.set i .un)
  | _ => none
def sRetN : SM := fun ρ => some (.rt (.val .none), ρ)
def sBrk : SM := fun ρ => some (.bk, ρ)
def sCnt : SM := fun ρ => some (.ct, ρ)
def sDrop (m : EM) : SM := fun ρ => (m ρ).map fun p => (.nx, p.2)
/-- targets -/
abbrev GM := PyData → Rho → Option Rho
def setSl (ρ : Rho) (i : Nat) (s : Sl) : Option Rho := match ρ[i]? with
  | some (.io _) => none
  | some _ => some (ρ.set i s)
  | none => none
def gNm (i : Nat) : GM := fun d ρ => setSl ρ i (.val d)
def gAll : List GM → List PyData → Rho → Option Rho
  | [], [], ρ => some ρ
  | g :: gs, d :: ds, ρ => (g d ρ).bind (gAll gs ds)
  | _, _, _ => none
def gTp (gs : List GM) : GM := fun d ρ => match d with
  | .tuple ds => gAll gs ds ρ
  | _ => none
def sAsg (g : GM) (m : VM) : SM := fun ρ => (m ρ).bind fun p => (g p.1 p.2).map fun ρ' => (.nx, ρ')
def sSetO (i : Nat) (m : OM) : SM := fun ρ => (m ρ).bind fun p => (setSl p.2 i (.own p.1)).map fun ρ' => (.nx, ρ')
/-- loops -/
def loopD (g : GM) (body : SM) : List PyData → SM
  | [], ρ => some (.nx, ρ)
  | d :: ds, ρ => (g d ρ).bind fun ρ1 => (body ρ1).bind fun p => match p.1 with
    | .nx => loopD g body ds p.2
    | .ct => loopD g body ds p.2
    | .bk => some (.nx, p.2)
    | .rt r => some (.rt r, p.2)
abbrev IM := Rho → Option (List PyData × Rho)
def sFor (it : IM) (g : GM) (body : SM) : SM := fun ρ => (it ρ).bind fun p => loopD g body p.1 p.2
def whileD (t : TM) (body : SM) : Nat → SM
  | 0, _ => none
  | n + 1, ρ => (t ρ).bind fun p => if p.1 = true then (body p.2).bind fun q => match q.1 with
      | .nx => whileD t body n q.2
      | .ct => whileD t body n q.2
      | .bk => some (.nx, q.2)
      | .rt r => some (.rt r, q.2)
    else some (.nx, p.2)

section
variable {X : Cx} {e a b c : Expr} {es : List Expr} {pos : Pos} {st : Stmt} {sts sts2 : List Stmt}
theorem se_gh {t : TS} (h : PS X st t) : PS X st (fun D σ H => GQ X.kw H fun H' => t D σ H') := ⟨fun pins s σ H D I q => by
  obtain ⟨H', I', q'⟩ := gq_run I q
  exact h.run pins s σ H' D I' q'⟩
theorem ss_nil : SEs X [] sNil := by
  refine pssm pss_nil fun D σ H ⟨ρ, f, ρ', hh, em, k⟩ => ?_
  cases em
  exact k σ H (.refl hh)
theorem ss_cons {m n : SM} (h : SE X st m) (h2 : SEs X sts n) : SEs X (st :: sts) (sSeq m n) := by
  refine pssm (pss_cons h h2) fun D σ H ⟨ρ, f, ρ', hh, em, k⟩ => ?_
  obtain ⟨⟨f1, ρ1⟩, e1, em⟩ := Option.bind_eq_some_iff.mp em
  refine ⟨ρ, f1, ρ1, hh, e1, ?_⟩
  cases f1 with
  | nx => exact fun σ1 H1 s1 => ⟨ρ1, f, ρ', s1.hold, em, k.back s1⟩
  | bk => cases em; exact k
  | ct => cases em; exact k
  | rt r => cases em; exact k
theorem ss_one {m : SM} (h : SE X st m) : SEs X [st] m := pss_one h
theorem se_pass : SE X (.Pass pos) sNil := by
  refine psm ps_pass fun D σ H ⟨ρ, f, ρ', hh, em, k⟩ => ?_
  cases em
  exact k σ H (.refl hh)
theorem se_break : SE X (.Break pos) sBrk := by
  refine psm ps_break fun D σ H ⟨ρ, f, ρ', hh, em, k⟩ => ?_
  cases em
  exact k σ H (.refl hh)
theorem se_cont : SE X (.Continue pos) sCnt := by
  refine psm ps_continue fun D σ H ⟨ρ, f, ρ', hh, em, k⟩ => ?_
  cases em
  exact k σ H (.refl hh)
theorem se_if {t : TM} {m n : SM} (ht : BT X c t) (h1 : SEs X sts m) (h2 : SEs X sts2 n) : SE X (.If c sts sts2 pos) (sIf t m n) := by
  refine psm (ps_if ht h1 h2) fun D σ H ⟨ρ, f, ρ', hh, em, k⟩ => ?_
  obtain ⟨⟨b', ρ1⟩, e1, em⟩ := Option.bind_eq_some_iff.mp em
  refine ⟨ρ, b', ρ1, hh, e1, fun H1 s1 => ?_⟩
  cases b' with
  | false =>
    simp only [Bool.false_eq_true, if_false] at em ⊢
    exact ⟨ρ1, f, ρ', s1.hold, em, k.back s1⟩
  | true =>
    simp only [if_true] at em ⊢
    exact ⟨ρ1, f, ρ', s1.hold, em, k.back s1⟩
theorem se_ret {m : VM} (h : VE X e m) : SE X (.Return (some e) pos) (sRet m) := by
  refine psm (ps_ret h) fun D σ H ⟨ρ, f, ρ', hh, em, k⟩ => ?_
  obtain ⟨⟨d, ρ1⟩, e1, em⟩ := Option.map_eq_some_iff.mp em
  cases em
  exact ⟨ρ, d, ρ1, hh, e1, fun v H1 s1 rp => k v σ H1 s1 rp⟩
theorem se_retO {m : OM} (h : OE X e m) : SE X (.Return (some e) pos) (sRetO m) := by
  refine psm (ps_ret h) fun D σ H ⟨ρ, f, ρ', hh, em, k⟩ => ?_
  obtain ⟨⟨d, ρ1⟩, e1, em⟩ := Option.map_eq_some_iff.mp em
  cases em
  exact ⟨ρ, d, ρ1, hh, e1, fun v H1 s1 n => k v σ H1 s1 ⟨n.rep, fun b hb => ⟨.inl (n.new b hb).1, (n.new b hb).2⟩⟩⟩
theorem se_retN : SE X (.Return none pos) sRetN := by
  refine psm ps_retN fun D σ H ⟨ρ, f, ρ', hh, em, k⟩ => ?_
  cases em
  exact k .non σ H (.refl hh) .non
theorem se_drop {m : EM} (h : RE X e m) (hs : swapsWith e none pos.line X.env = pure false := by rfl) : SE X (.Expr e pos) (sDrop m) := by
  refine psm (ps_expr h hs) fun D σ H ⟨ρ, f, ρ', hh, em, k⟩ => ?_
  obtain ⟨⟨d, ρ1⟩, e1, em⟩ := Option.map_eq_some_iff.mp em
  cases em
  exact ⟨ρ, d, ρ1, hh, e1, fun v H1 s1 _ => k σ H1 s1⟩
/-- a slot takes another value -/
theorem Hold.put {K : KW} {ρ ρ' : Rho} {σ : L2.St} {H : Hp} {i : Nat} {s : Sl} {x : Option V} (h : Hold K ρ σ H) (e : setSl ρ i s = some ρ') (ok : slOk K H x s) (ns : ∀ o, s ≠ .io o) (nw : ∀ m b, slFt m H x s b → (∀ n, ¬ owned n ρ σ H b)) :
    ρ' = ρ.set i s ∧ i < ρ.length ∧ (∀ o, ρ[i]? ≠ some (.io o)) ∧ Hold K ρ' (σ.set i x) H := by
  unfold setSl at e
  have main : (∀ o, ρ[i]? ≠ some (.io o)) → i < ρ.length → some (ρ.set i s) = some ρ' → ρ' = ρ.set i s ∧ i < ρ.length ∧ (∀ o, ρ[i]? ≠ some (.io o)) ∧ Hold K ρ' (σ.set i x) H := fun nio hi e => by
    cases e
    refine ⟨rfl, hi, nio, by simp [h.len], fun j t y h1 h2 => ?_, fun j k t u y z b m n ne h1 h2 h3 h4 f1 f2 => ?_, h.sz⟩
    · rcases set_get h1 with ⟨rfl, rfl, _⟩ | ⟨n1, h1⟩
      · rw [List.getElem?_set_self (by rw [h.len]; exact hi)] at h2
        cases h2
        exact ok
      · rw [List.getElem?_set_ne n1] at h2
        exact h.ok j t y h1 h2
    · rcases set_get h1 with ⟨rfl, rfl, _⟩ | ⟨n1, h1'⟩
      · rw [List.getElem?_set_self (by rw [h.len]; exact hi)] at h3
        cases h3
        rcases set_get h2 with ⟨e2, _, _⟩ | ⟨n2, h2⟩
        · exact ne e2
        · rw [List.getElem?_set_ne n2] at h4
          exact nw m b f1 n ⟨k, u, z, h2, h4, f2⟩
      · rw [List.getElem?_set_ne n1] at h3
        rcases set_get h2 with ⟨e2, e3, _⟩ | ⟨n2, h2'⟩
        · subst e2 e3
          rw [List.getElem?_set_self (by rw [h.len]; exact hi)] at h4
          cases h4
          exact nw n b f2 m ⟨j, t, y, h1', h3, f1⟩
        · rw [List.getElem?_set_ne n2] at h4
          exact h.sep j k t u y z b m n ne h1' h2' h3 h4 f1 f2
  cases q : ρ[i]? with
  | none => rw [q] at e; cases e
  | some t =>
    have hi := (List.getElem?_eq_some_iff.mp q).1
    rw [q] at e main
    cases t with
    | io o => cases e
    | un => exact main (fun o z => by cases z) hi e
    | val d => exact main (fun o z => by cases z) hi e
    | own o => exact main (fun o z => by cases z) hi e
theorem Stp.put {K : KW} {ρ ρ' : Rho} {σ : L2.St} {H : Hp} {i : Nat} {s : Sl} {x : Option V} (h : Hold K ρ σ H) (e : setSl ρ i s = some ρ') (ok : slOk K H x s) (ns : ∀ o, s ≠ .io o) (nw : ∀ m b, ¬ slFt m H x s b) : Stp K ρ σ H ρ' (σ.set i x) H := by
  obtain ⟨rfl, hi, nio, h'⟩ := h.put e ok ns fun m b f => absurd f (nw m b)
  refine ⟨h', Stb.refl _, fun b o q _ => q, fun m b q => ?_, fun b q => q, fun j o q => ?_⟩
  · obtain ⟨j, t, y, h1, h2, h3⟩ := q
    rcases set_get h1 with ⟨rfl, rfl, _⟩ | ⟨n1, h1⟩
    · rw [List.getElem?_set_self (by rw [h.len]; exact hi)] at h2
      cases h2
      exact absurd h3 (nw m b)
    · rw [List.getElem?_set_ne n1] at h2
      exact .inl ⟨j, t, y, h1, h2, h3⟩
  · have n1 : i ≠ j := by rintro rfl; exact nio o q
    exact ⟨o, by rw [List.getElem?_set_ne n1]; exact q, List.getElem?_set_ne n1, fun _ _ _ f => .inl f⟩
/-- an own object goes to a slot -/
theorem Stp.putO {K : KW} {ρ ρ1 ρ' : Rho} {σ : L2.St} {H H1 : Hp} {i : Nat} {o : Own} {v : V} (s : Stp K ρ σ H ρ1 σ H1) (n : NewO K ρ1 σ H H1 v o) (e : setSl ρ1 i (.own o) = some ρ') : Stp K ρ σ H ρ' (σ.set i (some v)) H1 := by
  have nw : ∀ m b, slFt m H1 (some v) (.own o) b → H b = none ∧ ∀ n, ¬ owned n ρ1 σ H1 b := fun m b f => by
    obtain ⟨_, v', e', f⟩ := f
    cases e'
    exact n.new b f
  obtain ⟨rfl, hi, nio, h'⟩ := s.hold.put (x := some v) e ⟨v, rfl, n.rep⟩ (fun _ z => by cases z) fun m b f => (nw m b f).2
  refine ⟨h', s.stb, s.keep, fun m b q => ?_, s.trk, fun j u q => ?_⟩
  · obtain ⟨j, t, y, h1, h2, h3⟩ := q
    rcases set_get h1 with ⟨rfl, rfl, _⟩ | ⟨n1, h1⟩
    · rw [List.getElem?_set_self (by rw [s.hold.len]; exact hi)] at h2
      cases h2
      exact .inr (nw m b h3).1
    · rw [List.getElem?_set_ne n1] at h2
      exact s.fresh m b ⟨j, t, y, h1, h2, h3⟩
  · obtain ⟨o', e1, e2, f⟩ := s.io j u q
    have n1 : i ≠ j := by rintro rfl; exact nio o' e1
    exact ⟨o', by rw [List.getElem?_set_ne n1]; exact e1, (List.getElem?_set_ne n1).trans e2, f⟩
/-! ### targets -/
def tG (K : KW) (g : GM) (is : List Nat) : TG := fun v σ H Q => ∃ ρ d ρ', Hold K ρ σ H ∧ Rp K H v d ∧ g d ρ = some ρ' ∧ ∀ σ', Stp K ρ σ H ρ' σ' H → wipe σ' is = wipe σ is → Q σ' H
abbrev GE (X : Cx) (tg : Expr) (g : GM) (is : List Nat) : Prop := PG X tg (tG X.kw g is)
theorem pgm {tg : Expr} {t t' : TG} (h : PG X tg t) (w : ∀ v σ H Q, t' v σ H Q → t v σ H Q) : PG X tg t' := ⟨fun pins s σ H v u Q I r q => h.run pins s σ H v u Q I r (w v σ H Q q)⟩
theorem pgsm {tg : List Expr} {t t' : TGs} (h : PGs X tg t) (w : ∀ v σ H Q, t' v σ H Q → t v σ H Q) : PGs X tg t' := ⟨fun pins s σ H v u Q I r q => h.run pins s σ H v u Q I r (w v σ H Q q)⟩
theorem ge_name (i : Nat) {x : Str} (hN : X.N.Nodup) (hi : X.N[i]? = some x := by rfl) (hx : Loc X.env.scope x := by first | exact Or.inl rfl | exact Or.inr rfl) (hf : X.fn x = true ∨ X.env.scope.names.lookup x = some .local := by first | exact .inl rfl | exact .inr rfl) : GE X (.Name x pos) (gNm i) [i] := by
  refine pgm (pg_name (i := i) hN hi hx hf) fun v σ H Q ⟨ρ, d, ρ', hh, rp, em, k⟩ => ?_
  refine k _ (Stp.put hh em ⟨v, rfl, rp⟩ (fun _ z => by cases z) fun _ _ z => z) ?_
  show (σ.set i (some v)).set i none = σ.set i none
  rw [List.set_set]
def tGs (K : KW) (gs : List GM) (is : List Nat) : TGs := fun vs σ H Q => ∃ ρ ds ρ', Hold K ρ σ H ∧ RpA K H vs ds ∧ gAll gs ds ρ = some ρ' ∧ ∀ σ', Stp K ρ σ H ρ' σ' H → wipe σ' is = wipe σ is → Q σ' H
abbrev GEs (X : Cx) (tg : List Expr) (gs : List GM) (is : List Nat) : Prop := PGs X tg (tGs X.kw gs is)
theorem ges_nil : GEs X [] [] [] := by
  refine pgsm pgs_nil fun v σ H Q ⟨ρ, d, ρ', hh, rp, em, k⟩ => ?_
  cases rp with
  | nil =>
    cases em
    exact ⟨rfl, k σ (.refl hh) rfl⟩
  | cons _ _ => cases em
theorem wipe_eq {σ σ' : L2.St} {is : List Nat} : wipe σ is = wipe σ' is ↔ σ.length = σ'.length ∧ ∀ i, i ∉ is → σ[i]? = σ'[i]? := by
  constructor
  · intro h
    have hl : σ.length = σ'.length := by rw [← wipe_length σ is, h, wipe_length]
    refine ⟨hl, fun i hi => ?_⟩
    have key : ∀ (τ : L2.St) (js : List Nat), i ∉ js → (wipe τ js)[i]? = τ[i]? := by
      intro τ js
      induction js with
      | nil => intro _; rfl
      | cons j js ih =>
        intro hj
        simp only [List.mem_cons, not_or] at hj
        show ((wipe τ js).set j none)[i]? = _
        rw [List.getElem?_set_ne (Ne.symm hj.1), ih hj.2]
    rw [← key σ is hi, h, key σ' is hi]
  · rintro ⟨hl, h⟩
    induction is generalizing σ σ' with
    | nil => exact List.ext_getElem? fun i => h i (by simp)
    | cons j js ih =>
      show (wipe σ js).set j none = (wipe σ' js).set j none
      refine List.ext_getElem? fun i => ?_
      by_cases e : j = i
      · subst e
        rw [List.getElem?_set_self', List.getElem?_set_self']
        have h1 := wipe_length σ js
        have h2 := wipe_length σ' js
        by_cases hj : j < σ.length
        · rw [List.getElem?_eq_getElem (by omega), List.getElem?_eq_getElem (by omega)]
          rfl
        · rw [List.getElem?_eq_none (by omega), List.getElem?_eq_none (by omega)]
      · rw [List.getElem?_set_ne e, List.getElem?_set_ne e]
        have key : ∀ (τ : L2.St) (is : List Nat), (wipe τ is)[i]? = if i ∈ is ∧ i < τ.length then some none else τ[i]? := by
          intro τ is
          induction is with
          | nil => simp [wipe]
          | cons k ks ih2 =>
            show ((wipe τ ks).set k none)[i]? = _
            by_cases e2 : k = i
            · subst e2
              rw [List.getElem?_set_self', ih2]
              by_cases hk : k < τ.length
              · by_cases hm : k ∈ ks <;> simp [hk, hm]
              · simp [hk]
            · rw [List.getElem?_set_ne e2, ih2]
              simp [Ne.symm e2]
        rw [key, key, hl]
        by_cases m : i ∈ js ∧ i < σ'.length
        · rw [if_pos m, if_pos m]
        · rw [if_neg m, if_neg m]
          by_cases mm : i ∈ js
          · have : ¬ i < σ'.length := fun z => m ⟨mm, z⟩
            rw [List.getElem?_eq_none (by omega), List.getElem?_eq_none (by omega)]
          · exact h i (by simp [Ne.symm e, mm])
theorem ges_cons {tg : Expr} {tgs : List Expr} {g : GM} {gs : List GM} {is js : List Nat} (h : GE X tg g is) (h2 : GEs X tgs gs js)
    (hs : (assignEach (tg :: tgs) X.env).map (·.2) = assign tg X.env :: (assignEach tgs X.env).map (·.2) := by rfl) : GEs X (tg :: tgs) (g :: gs) (is ++ js) := by
  refine pgsm (pgs_cons h h2 hs) fun v σ H Q ⟨ρ, ds, ρ', hh, rp, em, k⟩ => ?_
  cases rp with
  | nil => cases em
  | cons r1 r2 =>
    obtain ⟨ρ1, e1, e2⟩ := Option.bind_eq_some_iff.mp em
    refine ⟨_, _, rfl, ρ, _, ρ1, hh, r1, e1, fun σ1 s1 w1 => ⟨ρ1, _, ρ', s1.hold, r2, e2, fun σ2 s2 w2 => k σ2 (s1.trans s2) ?_⟩⟩
    rw [wipe_eq] at w1 w2 ⊢
    refine ⟨w2.1.trans w1.1, fun i hi => ?_⟩
    simp only [List.mem_append, not_or] at hi
    rw [w2.2 i hi.2, w1.2 i hi.1]
theorem ge_tup {tgs : List Expr} {gs : List GM} {is : List Nat} {k : Nat} (hc : X.calm = true) (h : GEs X tgs gs is) (hl : gs.length = tgs.length := by rfl)
    (hn : (assignEach tgs X.env).length = tgs.length := by rfl) (hst : (assignEach tgs X.env).findIdx? (·.1) = none := by rfl) : GE X (.Tuple tgs k pos) (gTp gs) is := by
  refine pgm (pg_tup hc h hn hst) fun v σ H Q ⟨ρ, d, ρ', hh, rp, em, k⟩ => ?_
  cases d with
  | tuple ds =>
    cases rp with
    | tup hs ra =>
      refine ⟨_, _, rfl, hs, ?_, ρ, ds, ρ', hh, ra, em, k⟩
      rw [ra.length, ← hl]
      have len : ∀ (gs : List GM) (ds : List PyData) (ρ : Rho), gAll gs ds ρ = some ρ' → ds.length = gs.length := by
        intro gs
        induction gs with
        | nil => intro ds ρ e; cases ds with | nil => rfl | cons _ _ => cases e
        | cons g gs ih => intro ds ρ e; cases ds with
          | nil => cases e
          | cons d ds => obtain ⟨ρ1, _, e2⟩ := Option.bind_eq_some_iff.mp e; simp [ih ds ρ1 e2]
      exact len gs ds ρ em
  | _ => cases em
theorem se_asg {tg : Expr} {m : VM} {g : GM} {is : List Nat} (he : VE X e m) (hg : GE X tg g is) (hs : swapsWithSole [tg] e pos.line X.env = pure false := by rfl) (hw : swappedStores [tg] e X.env = pure none := by rfl)
    (h1 : (assignEach [tg] X.env).map (·.2) = [assign tg X.env] := by rfl) : SE X (.Assign [tg] e pos) (sAsg g m) := by
  refine psm (ps_asg he hg hs hw h1) fun D σ H ⟨ρ, f, ρ', hh, em, k⟩ => ?_
  obtain ⟨⟨d, ρ1⟩, e1, em⟩ := Option.bind_eq_some_iff.mp em
  obtain ⟨ρ2, e2, em⟩ := Option.map_eq_some_iff.mp em
  cases em
  exact ⟨ρ, d, ρ1, hh, e1, fun v H1 s1 rp => ⟨ρ1, d, _, s1.hold, rp, e2, fun σ2 s2 _ => k σ2 H1 (s1.trans s2)⟩⟩
theorem se_set (i : Nat) {x : Str} {pos' : Pos} {m : VM} (hN : X.N.Nodup) (he : VE X e m) (hi : X.N[i]? = some x := by rfl) (hx : Loc X.env.scope x := by first | exact Or.inl rfl | exact Or.inr rfl)
    (hs : swapsWith e (some (.Name x pos')) pos.line X.env = pure false := by rfl) (hf : X.fn x = true ∨ X.env.scope.names.lookup x = some .local := by first | exact .inl rfl | exact .inr rfl) :
    SE X (.Assign [.Name x pos'] e pos) (sAsg (gNm i) m) := by
  refine psm (ps_set (i := i) hN hi hx he hs hf) fun D σ H ⟨ρ, f, ρ', hh, em, k⟩ => ?_
  obtain ⟨⟨d, ρ1⟩, e1, em⟩ := Option.bind_eq_some_iff.mp em
  obtain ⟨ρ2, e2, em⟩ := Option.map_eq_some_iff.mp em
  cases em
  exact ⟨ρ, d, ρ1, hh, e1, fun v H1 s1 rp => k _ H1 (s1.trans (Stp.put s1.hold e2 ⟨v, rfl, rp⟩ (fun _ z => by cases z) fun _ _ z => z))⟩
theorem se_setO (i : Nat) {x : Str} {pos' : Pos} {m : OM} (hN : X.N.Nodup) (he : OE X e m) (hi : X.N[i]? = some x := by rfl) (hx : Loc X.env.scope x := by first | exact Or.inl rfl | exact Or.inr rfl)
    (hs : swapsWith e (some (.Name x pos')) pos.line X.env = pure false := by rfl) (hf : X.fn x = true ∨ X.env.scope.names.lookup x = some .local := by first | exact .inl rfl | exact .inr rfl) :
    SE X (.Assign [.Name x pos'] e pos) (sSetO i m) := by
  refine psm (ps_set (i := i) hN hi hx he hs hf) fun D σ H ⟨ρ, f, ρ', hh, em, k⟩ => ?_
  obtain ⟨⟨d, ρ1⟩, e1, em⟩ := Option.bind_eq_some_iff.mp em
  obtain ⟨ρ2, e2, em⟩ := Option.map_eq_some_iff.mp em
  cases em
  exact ⟨ρ, d, ρ1, hh, e1, fun v H1 s1 n => k _ H1 (s1.putO n e2)⟩
/-- a local own object handed back -/
theorem Stp.drop {K : KW} {ρ : Rho} {σ : L2.St} {H : Hp} {i : Nat} (h : Hold K ρ σ H) (nio : ∀ o, ρ[i]? ≠ some (.io o)) : Stp K ρ σ H (ρ.set i .un) σ H := by
  refine ⟨⟨by simp [h.len], fun j t y h1 h2 => ?_, fun j k t u y z b m n ne h1 h2 h3 h4 f1 f2 => ?_, h.sz⟩, Stb.refl _, fun b o q _ => q, fun m b q => ?_, fun b q => q, fun j o q => ?_⟩
  · rcases set_get h1 with ⟨rfl, rfl, _⟩ | ⟨n1, h1⟩
    · trivial
    · exact h.ok j t y h1 h2
  · rcases set_get h1 with ⟨rfl, rfl, _⟩ | ⟨n1, h1⟩
    · exact f1.elim
    rcases set_get h2 with ⟨rfl, rfl, _⟩ | ⟨n2, h2⟩
    · exact f2.elim
    exact h.sep j k t u y z b m n ne h1 h2 h3 h4 f1 f2
  · obtain ⟨j, t, y, h1, h2, h3⟩ := q
    rcases set_get h1 with ⟨rfl, rfl, _⟩ | ⟨n1, h1⟩
    · exact h3.elim
    · exact .inl ⟨j, t, y, h1, h2, h3⟩
  · have n1 : i ≠ j := by rintro rfl; exact nio o q
    exact ⟨o, by rw [List.getElem?_set_ne n1]; exact q, rfl, fun _ _ _ f => .inl f⟩
theorem se_retV (i : Nat) {x : Str} {pos' : Pos} (hN : X.N[i]? = some x := by rfl) (hv : Vis X.env.scope x := by first | exact Or.inl rfl | exact Or.inr (Or.inl rfl) | exact Or.inr (Or.inr rfl)) (hd : (x == ("__debug__" : Str)) = false := by decide)
    (hcd : (x == ("__classdict__" : Str)) = false := by decide) : SE X (.Return (some (.Name x pos')) pos) (sRetV i) := by
  refine psm (ps_ret (pe_var hN hv hd hcd)) fun D σ H ⟨ρ, f, ρ', hh, em, k⟩ => ?_
  unfold sRetV at em
  cases q : ρ[i]? with
  | none => rw [q] at em; cases em
  | some s =>
    rw [q] at em
    cases s with
    | own o =>
      cases em
      have hi : i < σ.length := by rw [hh.len]; exact (List.getElem?_eq_some_iff.mp q).1
      obtain ⟨v, ev, r⟩ := hh.ok i _ _ q (List.getElem?_eq_getElem hi)
      have hs : σ[i]? = some (some v) := by rw [List.getElem?_eq_getElem hi, ev]
      refine ⟨v, hs, k v σ H (Stp.drop hh fun o z => by rw [q] at z; cases z) ⟨r, fun b hb => ⟨.inr ⟨i, _, _, q, hs, rfl, v, rfl, hb⟩, fun m z => ?_⟩⟩⟩
      obtain ⟨j, t, y, h1, h2, h3⟩ := z
      rcases set_get h1 with ⟨rfl, rfl, _⟩ | ⟨n1, h1⟩
      · exact h3.elim
      · exact hh.sep i j _ t _ y b false m n1 q h1 hs h2 ⟨rfl, v, rfl, hb⟩ h3
    | un => cases em
    | val d => cases em
    | io o => cases em
/-! ### what a for walks -/
structure Feeds (K : KW) (J : It) (ds : List PyData) (H0 : Hp) : Prop where
  small : ds.length ≤ sizeLine
  go : ∀ i H, Stb H0 H → i < ds.length → J.go i H
  stop : ∀ i H, Stb H0 H → ds.length ≤ i → J.stop i H
  yld : ∀ i H x H', Stb H0 H → Szs K H → i < ds.length → J.yld i H x H' → Same H H' ∧ Szs K H' ∧ ∃ d, ds[i]? = some d ∧ Rp K H' x d
def tI (K : KW) (m : IM) : TI := fun σ H R => ∃ ρ ds ρ', Hold K ρ σ H ∧ m ρ = some (ds, ρ') ∧ ∀ J H', Stp K ρ σ H ρ' σ H' → Feeds K J ds H' → R J H'
abbrev IE (X : Cx) (tg e : Expr) (m : IM) : Prop := PI X tg e (tI X.kw m)
theorem pim {tg : Expr} {t t' : TI} (h : PI X tg e t) (w : ∀ σ H Q, t' σ H Q → t σ H Q) : PI X tg e t' := ⟨fun pins s σ H R I q => h.run pins s σ H R I (w σ H R q)⟩
def iSeq (m : VM) : IM := fun ρ => (m ρ).bind fun p => match p.1 with
  | .list ds => some (ds, p.2)
  | _ => none
def iTupD (m : VM) : IM := fun ρ => (m ρ).bind fun p => match p.1 with
  | .tuple ds => some (ds, p.2)
  | _ => none
end
end Vx
/-! Vx5: what loops walk, loops, list comprehensions. -/
namespace Vx
open PySem PySem.Spec L2

section
variable {X : Cx} {tg e a b c : Expr} {es : List Expr} {pos : Pos} {st : Stmt} {sts : List Stmt}
/-! ### what is walked -/
def iSeqR (K : PySem.W.Frag) (tl : TE) : TI := fun σ H R => tl σ H fun x H1 => ∃ p, x = .ref p ∧ (((∃ xs, SqL K H1 p xs) ∧ R (Itl K p) H1) ∨ ((∃ xs, SqT K H1 p xs) ∧ R (Itt K p) H1))
theorem pi_seq {l : Expr} {tl : TE} (hl : PE X l tl) : PI X tg l (iSeqR X.K tl) := by
  refine ⟨fun pins s σ H R I h => ?_⟩
  refine thn (hl.run pins s σ H _ I h) fun v s1 ⟨x, H1, I1, r1, p, ex, q⟩ => ?_
  subst ex
  cases r1
  rcases q with ⟨⟨xs, hq⟩, q⟩ | ⟨⟨xs, hq⟩, q⟩
  · obtain ⟨its, rv, pl, hz⟩ := I1.list hq
    refine wpAny_pyIter_list pl.isList ?_
    refine ⟨s1.heap.objs.size, [s1.heap.objs.size], _, _, H1, rfl, I1.kept (t' := s1.toks) (fun b o z => Heap.get?_push_of_some _ z), turn_list p _, ⟨_, Heap.get?_push_size _ rfl, rfl, rfl⟩, fun b hb => ?_, q⟩
    obtain rfl : b = s1.heap.objs.size := by simpa using hb
    exact I1.fpOk (Nat.le_refl _) (I1.hok.fresh (Nat.le_refl _))
  · obtain ⟨its, rv, pl, hz⟩ := I1.tuple hq
    refine wpAny_pyIter_tuple (show s1.heap.IsTuple p its.toArray from pl) ?_
    refine ⟨s1.heap.objs.size, [s1.heap.objs.size], _, _, H1, rfl, I1.kept (t' := s1.toks) (fun b o z => Heap.get?_push_of_some _ z), turn_tuple p _, ⟨_, Heap.get?_push_size _ rfl, rfl, rfl⟩, fun b hb => ?_, q⟩
    obtain rfl : b = s1.heap.objs.size := by simpa using hb
    exact I1.fpOk (Nat.le_refl _) (I1.hok.fresh (Nat.le_refl _))
def seqOf : PyData → Option (List PyData)
  | .list ds => some ds
  | .tuple ds => some ds
  | _ => none
def iSq (m : VM) : IM := fun ρ => (m ρ).bind fun p => (seqOf p.1).map fun ds => (ds, p.2)
theorem feeds_l {K : KW} {H : Hp} {p : Addr} {xs : List V} {ds : List PyData} (h : FzL K H p xs) (ra : RpA K H xs ds) (z : Szs K H) : Feeds K (Itl K.K p) ds H where
  small := by rw [← ra.length]; exact z.lst _ _ h.sq
  go := fun i H' st hi => by
    obtain ⟨v, ev, _⟩ := ra.get (List.getElem?_eq_getElem hi)
    exact ⟨xs, v, (st.fzL h).sq, ev⟩
  stop := fun i H' st hi => ⟨xs, (st.fzL h).sq, by rw [ra.length]; exact hi⟩
  yld := fun i H' x H'' st z' hi y => by
    obtain ⟨rfl, y⟩ := y
    obtain ⟨d, ed, r⟩ := ra.getV (y xs (st.fzL h).sq)
    exact ⟨Same.refl _, z', d, ed, r.stb st⟩
theorem feeds_t {K : KW} {H : Hp} {p : Addr} {xs : List V} {ds : List PyData} (h : SqT K.K H p xs) (ra : RpA K H xs ds) (z : Szs K H) : Feeds K (Itt K.K p) ds H where
  small := by rw [← ra.length]; exact z.tup _ _ h
  go := fun i H' st hi => by
    obtain ⟨v, ev, _⟩ := ra.get (List.getElem?_eq_getElem hi)
    exact ⟨xs, v, st.sqT h, ev⟩
  stop := fun i H' st hi => ⟨xs, st.sqT h, by rw [ra.length]; exact hi⟩
  yld := fun i H' x H'' st z' hi y => by
    obtain ⟨rfl, y⟩ := y
    obtain ⟨d, ed, r⟩ := ra.getV (y xs (st.sqT h))
    exact ⟨Same.refl _, z', d, ed, r.stb st⟩
theorem ie_seq {m : VM} (h : VE X e m) : IE X tg e (iSq m) := by
  refine pim (pi_seq h) fun σ H R ⟨ρ, ds, ρ', hh, em, k⟩ => ?_
  obtain ⟨⟨d, ρ1⟩, e1, em⟩ := Option.bind_eq_some_iff.mp em
  obtain ⟨ds', e2, em⟩ := Option.map_eq_some_iff.mp em
  cases em
  refine ⟨ρ, d, _, hh, e1, fun v H1 s1 rp => ?_⟩
  cases d with
  | list es =>
    cases e2
    cases rp with
    | lst hf ra => exact ⟨_, rfl, .inl ⟨⟨_, hf.sq⟩, k _ H1 s1 (feeds_l hf ra s1.hold.sz)⟩⟩
  | tuple es =>
    cases e2
    cases rp with
    | tup hf ra => exact ⟨_, rfl, .inr ⟨⟨_, hf⟩, k _ H1 s1 (feeds_t hf ra s1.hold.sz)⟩⟩
  | none => cases e2
  | bool _ => cases e2
  | int _ => cases e2
  | str _ => cases e2
  | dict _ => cases e2
def rngD (lo : Int) (n : Nat) : List PyData := (List.range n).map fun (i : Nat) => .int (lo + i)
theorem feeds_r {K : KW} {H : Hp} {lo : Int} {n : Nat} (hn : n ≤ sizeLine) : Feeds K (Itr lo n) (rngD lo n) H where
  small := by simpa [rngD] using hn
  go := fun i H' st hi => by show i < n; simpa [rngD] using hi
  stop := fun i H' st hi => by show n ≤ i; simpa [rngD] using hi
  yld := fun i H' x H'' st z' hi y => by
    obtain ⟨rfl, rfl⟩ := y
    have hi' : i < n := by simpa [rngD] using hi
    exact ⟨Same.refl _, z', .int (lo + i), by simp [rngD, hi'], .int _⟩
def iRg1 (m : RM) : IM := fun ρ => (m ρ).bind fun p => match rdAll p.2 p.1 with
  | some [.int j] => if j ≤ 16777216 ∧ -(2 ^ 62) ≤ j then some (rngD 0 j.toNat, p.2) else none
  | _ => none
def iRg2 (m : RM) : IM := fun ρ => (m ρ).bind fun p => match rdAll p.2 p.1 with
  | some [.int i, .int j] => if j - i ≤ 16777216 ∧ (-(2 ^ 62) ≤ i ∧ i < 2 ^ 62) ∧ -(2 ^ 62) ≤ j ∧ j < 2 ^ 62 then some (rngD i (j - i).toNat, p.2) else none
  | _ => none
theorem ie_range1 {m : RM} {p : Pos} (hg : Gl X "range") (hm : X.mg "range" = none) (ha : RS X [a] m) (hs : starEach [a] X.env = [(false, eval a X.env)] := by rfl) : IE X tg (.Call (.Name "range" p) [a] [] pos) (iRg1 m) := by
  refine pim (pi_range1 hg hm ha hs) fun σ H R ⟨ρ, ds, ρ', hh, em, k⟩ => ?_
  obtain ⟨⟨rs, ρ1⟩, e1, em⟩ := Option.bind_eq_some_iff.mp em
  dsimp only at em
  split at em
  · rename_i j q
    by_cases hj : j ≤ 16777216 ∧ -(2 ^ 62) ≤ j
    · rw [if_pos hj] at em
      cases em
      refine ⟨ρ, rs, _, hh, e1, fun vs H1 s1 ok => ?_⟩
      have bq := rdAll_bq s1.hold ok q
      cases bq with
      | cons r t =>
        cases t
        rw [r.int]
        exact ⟨j, rfl, by omega, by omega, k _ H1 s1 (feeds_r (by rw [sizeLine_eq]; omega))⟩
    · rw [if_neg hj] at em; cases em
  · cases em
theorem ie_range2 {m : RM} {p : Pos} (hg : Gl X "range") (hm : X.mg "range" = none) (ha : RS X [a, b] m) (hs : starEach [a, b] X.env = [(false, eval a X.env), (false, eval b X.env)] := by rfl) (hs2 : starEach [b] X.env = [(false, eval b X.env)] := by rfl) :
    IE X tg (.Call (.Name "range" p) [a, b] [] pos) (iRg2 m) := by
  refine pim (pi_range2 hg hm ha hs hs2) fun σ H R ⟨ρ, ds, ρ', hh, em, k⟩ => ?_
  obtain ⟨⟨rs, ρ1⟩, e1, em⟩ := Option.bind_eq_some_iff.mp em
  dsimp only at em
  split at em
  · rename_i i j q
    by_cases hj : j - i ≤ 16777216 ∧ (-(2 ^ 62) ≤ i ∧ i < 2 ^ 62) ∧ -(2 ^ 62) ≤ j ∧ j < 2 ^ 62
    · rw [if_pos hj] at em
      cases em
      refine ⟨ρ, rs, _, hh, e1, fun vs H1 s1 ok => ?_⟩
      have bq := rdAll_bq s1.hold ok q
      cases bq with
      | cons r t =>
        cases t with
        | cons r2 t2 =>
          cases t2
          rw [r.int, r2.int]
          exact ⟨i, j, rfl, ⟨hj.2.1.1, hj.2.1.2, hj.2.2.1, hj.2.2.2⟩, k _ H1 s1 (feeds_r (by rw [sizeLine_eq]; omega))⟩
    · rw [if_neg hj] at em; cases em
  · cases em
/-! ### for -/
theorem se_for {it : IM} {g : GM} {is : List Nat} {m : SM} (hp : PassesOwn (model X.prog X.w) X.A X.env X.xe) (hc : X.calm = true) (hi : IE X tg e it) (hg : GE X tg g is) (hb : SEs X sts m)
    (hs : ∀ x, foldedSetIterable e X.env x = pure x := by intro _; rfl) : SE X (.For tg e sts [] pos) (sFor it g m) := by
  refine psm (ps_for hp hc hi hg hb hs) fun D σ H ⟨ρ, f, ρ', hh, em, k⟩ => ?_
  obtain ⟨⟨ds, ρ1⟩, e1, em⟩ := Option.bind_eq_some_iff.mp em
  refine ⟨ρ, ds, ρ1, hh, e1, fun J H1 s1 fd => ?_⟩
  have k1 := k.back s1
  dsimp only at em
  clear k e1
  refine ⟨fun i n τ G => n = ds.length - i ∧ i ≤ ds.length ∧ ∃ ρt, Stp X.kw ρ1 σ H1 ρt τ G ∧ loopD g m (ds.drop i) ρt = some (f, ρ'), ⟨ds.length, by simp, Nat.zero_le _, ρ1, .refl s1.hold, by simpa using em⟩, ?_⟩
  rintro i n τ G ⟨rfl, hi, ρt, st, el⟩
  by_cases hlt : i < ds.length
  · refine .inr ⟨fd.go i G st.stb hlt, fun τ' G' => ∃ ρt', Stp X.kw ρ1 σ H1 ρt' τ' G' ∧ loopD g m (ds.drop (i + 1)) ρt' = some (f, ρ'), fun τ' G' q => ⟨ds.length - (i + 1), by omega, rfl, hlt, q⟩, fun x G' y => ?_⟩
    obtain ⟨sm, z, d, ed, rp⟩ := fd.yld i G x G' st.stb st.hold.sz hlt y
    have st2 := st.trans (st.hold.grow sm z)
    rw [List.drop_eq_getElem_cons hlt] at el
    rw [List.getElem?_eq_getElem hlt] at ed
    rw [Option.some.inj ed] at el
    unfold loopD at el
    obtain ⟨ρ2, g1, el⟩ := Option.bind_eq_some_iff.mp el
    obtain ⟨⟨f3, ρ3⟩, g2, el⟩ := Option.bind_eq_some_iff.mp el
    refine ⟨ρt, d, ρ2, st2.hold, rp, g1, fun τ2 s2 _ => ?_⟩
    have st3 := st2.trans s2
    refine ⟨ρ2, f3, ρ3, s2.hold, g2, ?_⟩
    cases f3 with
    | nx => exact fun τ3 G3 s3 => ⟨ρ3, st3.trans s3, el⟩
    | ct => exact fun τ3 G3 s3 => ⟨ρ3, st3.trans s3, el⟩
    | bk =>
      cases el
      exact fun τ3 G3 s3 => k1 τ3 G3 (st3.trans s3)
    | rt r =>
      cases el
      exact fun v τ3 G3 s3 ok => k1 v τ3 G3 (st3.trans s3) (ok.back st3)
  · refine .inl ⟨fd.stop i G st.stb (by omega), ?_⟩
    have : i = ds.length := by omega
    subst this
    rw [List.drop_length] at el
    cases el
    exact k1 τ G st
/-! ### while -/
theorem se_while {t : TM} {m : SM} (n : Nat) (hp : PassesOwn (model X.prog X.w) X.A X.env X.xe) (hc : BT X c t) (hb : SEs X sts m) : SE X (.While c sts [] pos) (whileD t m n) := by
  refine psm (ps_while hp hc hb) fun D σ H ⟨ρ, f, ρ', hh, em, k⟩ => ?_
  refine ⟨fun n τ G => ∃ ρt, Stp X.kw ρ σ H ρt τ G ∧ whileD t m n ρt = some (f, ρ'), ⟨n, ρ, .refl hh, em⟩, ?_⟩
  rintro n τ G ⟨ρt, st, ew⟩
  cases n with
  | zero => cases ew
  | succ n =>
    unfold whileD at ew
    obtain ⟨⟨b, ρ2⟩, e1, ew⟩ := Option.bind_eq_some_iff.mp ew
    refine ⟨ρt, b, ρ2, st.hold, e1, fun G2 s2 => ?_⟩
    have st2 := st.trans s2
    cases b with
    | false =>
      simp only [Bool.false_eq_true, if_false] at ew ⊢
      cases ew
      exact k τ G2 st2
    | true =>
      simp only [if_true] at ew ⊢
      obtain ⟨⟨f3, ρ3⟩, e3, ew⟩ := Option.bind_eq_some_iff.mp ew
      refine ⟨fun τ' G' => ∃ ρt', Stp X.kw ρ σ H ρt' τ' G' ∧ whileD t m n ρt' = some (f, ρ'), fun τ' G' q => ⟨n, Nat.lt_succ_self n, q⟩, ρ2, f3, ρ3, s2.hold, e3, ?_⟩
      cases f3 with
      | nx => exact fun τ3 G3 s3 => ⟨ρ3, st2.trans s3, ew⟩
      | ct => exact fun τ3 G3 s3 => ⟨ρ3, st2.trans s3, ew⟩
      | bk =>
        cases ew
        exact fun τ3 G3 s3 => k τ3 G3 (st2.trans s3)
      | rt r =>
        cases ew
        exact fun v τ3 G3 s3 ok => k v τ3 G3 (st2.trans s3) (ok.back st2)
end

/-! ### comprehensions -/
def wipeO (ρ : Rho) : List Nat → Option Rho
  | [] => some ρ
  | v :: vs => (wipeO ρ vs).bind fun ρ' => setSl ρ' v .un
def compD (g : GM) (t : TM) (m : VM) (vs : List Nat) : List PyData → Rho → Option (List PyData × Rho)
  | [], ρ => some ([], ρ)
  | d :: ds, ρ => (g d ρ).bind fun ρ1 => (t ρ1).bind fun p => if p.1 = true then
        (m p.2).bind fun q => (wipeO q.2 vs).bind fun ρ2 => (compD g t m vs ds ρ2).map fun r => (q.1 :: r.1, r.2)
      else (wipeO p.2 vs).bind fun ρ2 => compD g t m vs ds ρ2
def oLc (it : IM) (g : GM) (t : TM) (m : VM) (vs : List Nat) : OM := fun ρ => (it ρ).bind fun p => (wipeO p.2 vs).bind fun ρw => (compD g t m vs p.1 ρw).map fun r => (.lst r.1, r.2)
def tYesM : TM := fun ρ => some (true, ρ)
/-- slots that hold nothing may stand as they like -/
theorem Hold.un {K : KW} {ρ : Rho} {σ τ : L2.St} {H : Hp} (h : Hold K ρ σ H) (hl : τ.length = σ.length) (e : ∀ (i : Nat), ρ[i]? ≠ some Sl.un → τ[i]? = σ[i]?) : Hold K ρ τ H := by
  refine ⟨hl.trans h.len, fun i s x h1 h2 => ?_, fun i j s t x y b m n ne h1 h2 h3 h4 f1 f2 => ?_, h.sz⟩
  · by_cases hs : s = .un
    · subst hs; trivial
    · rw [e i (by rw [h1]; intro z; exact hs (Option.some.inj z))] at h2
      exact h.ok i s x h1 h2
  · have n1 : s ≠ .un := by rintro rfl; exact f1
    have n2 : t ≠ .un := by rintro rfl; exact f2
    rw [e i (by rw [h1]; intro z; exact n1 (Option.some.inj z))] at h3
    rw [e j (by rw [h2]; intro z; exact n2 (Option.some.inj z))] at h4
    exact h.sep i j s t x y b m n ne h1 h2 h3 h4 f1 f2
theorem owned_un {ρ : Rho} {σ τ : L2.St} {H : Hp} {m : Bool} {b : Addr} (hl : τ.length = σ.length) (e : ∀ (i : Nat), ρ[i]? ≠ some Sl.un → τ[i]? = σ[i]?) (h : owned m ρ τ H b) : owned m ρ σ H b := by
  obtain ⟨i, s, x, h1, h2, h3⟩ := h
  have n1 : s ≠ .un := by rintro rfl; exact h3
  rw [e i (by rw [h1]; intro z; exact n1 (Option.some.inj z))] at h2
  exact ⟨i, s, x, h1, h2, h3⟩
/-- a step seen with other idle slots -/
theorem Stp.un {K : KW} {ρ ρ' : Rho} {σ σ' τ τ' : L2.St} {H H' : Hp} (s : Stp K ρ σ H ρ' σ' H') (hl : τ.length = σ.length) (e : ∀ (i : Nat), ρ[i]? ≠ some Sl.un → τ[i]? = σ[i]?) (hl' : τ'.length = σ'.length) (e' : ∀ (i : Nat), ρ'[i]? ≠ some Sl.un → τ'[i]? = σ'[i]?) :
    Stp K ρ τ H ρ' τ' H' := by
  have back : ∀ (i : Nat), ρ[i]? ≠ some Sl.un → σ[i]? = τ[i]? := fun i h => (e i h).symm
  refine ⟨s.hold.un hl' e', s.stb, fun b o q n => s.keep b o q fun m z => n m (owned_un hl.symm back z), fun m b q => (s.fresh m b (owned_un hl' e' q)).elim (fun z => .inl (owned_un hl.symm back z)) .inr, s.trk, fun i o q => ?_⟩
  obtain ⟨o', e1, e2, f⟩ := s.io i o q
  refine ⟨o', e1, ?_, fun b x hx g => f b x ?_ g⟩
  · rw [e' i (by rw [e1]; simp), e i (by rw [q]; simp), e2]
  · rw [← e i (by rw [q]; simp)]; exact hx
theorem Stp.wipe {K : KW} {ρ : Rho} {σ : L2.St} {H : Hp} : ∀ {vs : List Nat} {ρ' : Rho}, Hold K ρ σ H → wipeO ρ vs = some ρ' → Stp K ρ σ H ρ' σ H ∧ ∀ (i : Nat), ρ'[i]? ≠ some Sl.un → i ∉ vs
  | [], ρ', h, e => by cases e; exact ⟨.refl h, fun i _ => by simp⟩
  | v :: vs, ρ', h, e => by
    obtain ⟨ρ1, e1, e2⟩ := Option.bind_eq_some_iff.mp e
    obtain ⟨s1, n1⟩ := Stp.wipe h e1
    have hi : v < ρ1.length ∧ (∀ o, ρ1[v]? ≠ some (.io o)) ∧ ρ' = ρ1.set v .un := by
      unfold setSl at e2
      cases q : ρ1[v]? with
      | none => rw [q] at e2; cases e2
      | some t =>
        rw [q] at e2
        have hl := (List.getElem?_eq_some_iff.mp q).1
        cases t with
        | io o => cases e2
        | un => cases e2; exact ⟨hl, fun o z => (by cases z), rfl⟩
        | val d => cases e2; exact ⟨hl, fun o z => (by cases z), rfl⟩
        | own o => cases e2; exact ⟨hl, fun o z => (by cases z), rfl⟩
    obtain ⟨hl, nio, rfl⟩ := hi
    refine ⟨s1.trans (Stp.drop s1.hold nio), fun i hn => ?_⟩
    by_cases hv : v = i
    · subst hv
      rw [List.getElem?_set_self hl] at hn
      exact absurd rfl hn
    · rw [List.getElem?_set_ne hv] at hn
      simp only [List.mem_cons, not_or]
      exact ⟨fun z => hv z.symm, n1 i hn⟩
theorem wipe_out {σ : L2.St} {vs : List Nat} {i : Nat} (h : i ∉ vs) : (L2.wipe σ vs)[i]? = σ[i]? := by
  induction vs with
  | nil => rfl
  | cons v vs ih =>
    simp only [List.mem_cons, not_or] at h
    show ((L2.wipe σ vs).set v none)[i]? = _
    rw [List.getElem?_set_ne (Ne.symm h.1), ih h.2]
theorem wipe_wipe (σ : L2.St) (vs : List Nat) : L2.wipe (L2.wipe σ vs) vs = L2.wipe σ vs := wipe_eq.mpr ⟨wipe_length _ _, fun i h => wipe_out h⟩
section
variable {X : Cx}
abbrev BTs (X : Cx) (ifs : List Expr) (t : TM) : Prop := PTs X ifs (tT X.kw t)
theorem bts_nil : BTs X [] tYesM := by
  refine ⟨fun pins s σ H Q I ⟨ρ, b, ρ', hh, em, k⟩ => pts_nil.run pins s σ H Q I ?_⟩
  cases em
  exact k H (.refl hh)
theorem bts_one {c : Expr} {t : TM} (h : BT X c t) : BTs X [c] t := pts_one h
/-- the reading of a comprehension over data -/
theorem lc_read {K : KW} {it : IM} {g : GM} {t : TM} {m : VM} {vs : List Nat} {σ : L2.St} {H : Hp} {Q : VK} (h : tO K (oLc it g t m vs) σ H Q) :
    tLc (tI K it) (tG K g vs) (tT K t) (tV K m) vs σ H Q := by
  obtain ⟨ρ, o, ρq, hh, em, k⟩ := h
  obtain ⟨⟨ds, ρ1⟩, e1, em⟩ := Option.bind_eq_some_iff.mp em
  obtain ⟨ρw, e2, em⟩ := Option.bind_eq_some_iff.mp em
  obtain ⟨⟨ys, ρf⟩, e3, em⟩ := Option.map_eq_some_iff.mp em
  cases em
  refine ⟨ρ, ds, ρ1, hh, e1, fun J H1 s1 fd D hD => ?_⟩
  obtain ⟨sw, nw⟩ := Stp.wipe s1.hold e2
  dsimp only at e3
  -- the block's frame: the wiped slots
  have wl : (L2.wipe σ vs).length = σ.length := wipe_length σ vs
  have H0w : Hold K ρw (L2.wipe σ vs) H1 := sw.hold.un wl fun i hi => wipe_out (nw i hi)
  have noD : ∀ m, ¬ owned m ρw (L2.wipe σ vs) H1 D := fun m q => H0w.trk q hD
  refine ⟨fun i n G => n = ds.length - i ∧ i ≤ ds.length ∧ ∃ ρt acc done rest, Stp K ρw (L2.wipe σ vs) H1 ρt (L2.wipe σ vs) G ∧ (∀ m, ¬ owned m ρt (L2.wipe σ vs) G D) ∧ G D = some (.lst acc) ∧ RpA K G acc done ∧ acc.length ≤ i ∧ (∀ (j : Nat), ρt[j]? ≠ some Sl.un → j ∉ vs) ∧
      compD g t m vs (ds.drop i) ρt = some (rest, ρf) ∧ ys = done ++ rest, ⟨ds.length, by simp, Nat.zero_le _, ρw, [], [], ys, ?_, ?_, upd_same, .nil, Nat.le_refl _, nw, by simpa using e3, rfl⟩, ?_⟩
  · have z : Szs K (upd H1 D (.lst [])) := by
      have z0 := s1.hold.sz
      refine ⟨fun a xs q => ?_, fun a xs q => ?_⟩
      · by_cases ha : a = D
        · subst ha
          rcases q with (q | ⟨o, q⟩) | q
          · rw [upd_same] at q; cases q; exact Nat.zero_le _
          · rw [upd_same] at q; cases q
          · exact z0.lst a xs (.inr q)
        · rcases q with (q | ⟨o, q⟩) | q
          · rw [upd_ne ha] at q; exact z0.lst a xs (.inl (.inl q))
          · rw [upd_ne ha] at q; exact z0.lst a xs (.inl (.inr ⟨o, q⟩))
          · exact z0.lst a xs (.inr q)
      · by_cases ha : a = D
        · subst ha
          rcases q with (q | ⟨o, q⟩) | q
          · rw [upd_same] at q; cases q
          · rw [upd_same] at q; cases q
          · exact z0.tup a xs (.inr q)
        · rcases q with (q | ⟨o, q⟩) | q
          · rw [upd_ne ha] at q; exact z0.tup a xs (.inl (.inl q))
          · rw [upd_ne ha] at q; exact z0.tup a xs (.inl (.inr ⟨o, q⟩))
          · exact z0.tup a xs (.inr q)
    exact H0w.grow (same_new hD) z
  · rintro m' ⟨i, s, x, h1, h2, h3⟩
    have ok := H0w.ok i s x h1 h2
    have stq := ok.stay (H' := upd H1 D (.lst [])) ⟨fun _ _ e => same_new hD _ _ e, fun _ _ _ e => same_new hD _ _ e⟩ fun m b hb => by
      have t' := H0w.trk ⟨i, s, x, h1, h2, hb⟩
      rw [upd_ne]
      rintro rfl
      exact t' hD
    exact noD m' ⟨i, s, x, h1, h2, stq.2 m' D h3⟩
  rintro i n G ⟨rfl, hi, ρt, acc, done, rest, st, nD, gD, ra, hacc, nu, ec, ey⟩
  by_cases hlt : i < ds.length
  · have szl := fd.small
    have stb1 : Stb H1 G := st.stb
    refine .inr ⟨fd.go i G stb1 hlt, fun G' => ∃ ρt acc done rest, Stp K ρw (L2.wipe σ vs) H1 ρt (L2.wipe σ vs) G' ∧ (∀ m, ¬ owned m ρt (L2.wipe σ vs) G' D) ∧ G' D = some (.lst acc) ∧ RpA K G' acc done ∧ acc.length ≤ i + 1 ∧ (∀ (j : Nat), ρt[j]? ≠ some Sl.un → j ∉ vs) ∧
        compD g t m vs (ds.drop (i + 1)) ρt = some (rest, ρf) ∧ ys = done ++ rest, fun G' q => ⟨ds.length - (i + 1), by omega, rfl, hlt, q⟩, fun x G' y => ?_⟩
    obtain ⟨sm, z, d, ed, rp⟩ := fd.yld i G x G' stb1 st.hold.sz hlt y
    have g0 := st.hold.grow sm z
    have st2 := st.trans g0
    rw [List.drop_eq_getElem_cons hlt] at ec
    rw [List.getElem?_eq_getElem hlt] at ed
    rw [Option.some.inj ed] at ec
    unfold compD at ec
    obtain ⟨ρ2, g1, ec⟩ := Option.bind_eq_some_iff.mp ec
    obtain ⟨⟨b, ρ3⟩, g2, ec⟩ := Option.bind_eq_some_iff.mp ec
    -- a step from the turn's start keeps the new list
    have keepD : ∀ {ρa : Rho} {τ : L2.St} {Ga : Hp}, Stp K ρt (L2.wipe σ vs) G ρa τ Ga → Ga D = some (.lst acc) ∧ RpA K Ga acc done ∧ ∀ m, ¬ owned m ρa τ Ga D := fun {ρa τ Ga} sa =>
      ⟨sa.keep D _ gD nD, ra.stb sa.stb, fun m q => (sa.fresh m D q).elim (nD m) fun z => by rw [gD] at z; cases z⟩
    refine ⟨ρt, d, ρ2, st2.hold, rp, g1, fun τ2 s2 w2 => ⟨w2.trans (wipe_wipe σ vs), ρ2, b, ρ3, s2.hold, g2, fun G3 s3 => ?_⟩⟩
    have sA := g0.trans (s2.trans s3)
    have w2' : L2.wipe τ2 vs = L2.wipe σ vs := w2.trans (wipe_wipe σ vs)
    have τl : τ2.length = σ.length := (wipe_eq.mp w2').1
    have close : ∀ {ρa ρb : Rho} {Ga : Hp}, Stp K ρt (L2.wipe σ vs) G ρa τ2 Ga → wipeO ρa vs = some ρb → Stp K ρt (L2.wipe σ vs) G ρb (L2.wipe σ vs) Ga ∧ ∀ (j : Nat), ρb[j]? ≠ some Sl.un → j ∉ vs := fun {ρa ρb Ga} sa eb => by
      obtain ⟨sb, nb⟩ := Stp.wipe sa.hold eb
      refine ⟨(sa.trans sb).un rfl (fun _ _ => rfl) (wl.trans τl.symm) fun j hj => ?_, nb⟩
      rw [wipe_out (nb j hj), (wipe_eq.mp w2').2 j (nb j hj)]
    cases b with
    | false =>
      simp only [Bool.false_eq_true, if_false] at ec ⊢
      obtain ⟨ρ4, e4, ec⟩ := Option.bind_eq_some_iff.mp ec
      obtain ⟨sB, nB⟩ := close sA e4
      obtain ⟨d1, d2, d3⟩ := keepD sB
      exact ⟨ρ4, acc, done, rest, st.trans sB, d3, d1, d2, by omega, nB, ec, ey⟩
    | true =>
      simp only [if_true] at ec ⊢
      obtain ⟨⟨y, ρ4⟩, e4, ec⟩ := Option.bind_eq_some_iff.mp ec
      obtain ⟨ρ5, e5, ec⟩ := Option.bind_eq_some_iff.mp ec
      obtain ⟨⟨rs, ρ6⟩, e6, ec⟩ := Option.map_eq_some_iff.mp ec
      cases ec
      refine ⟨ρ3, y, ρ4, s3.hold, e4, fun v G4 s4 rv => ?_⟩
      have sA4 := sA.trans s4
      obtain ⟨sB, nB⟩ := close sA4 e5
      obtain ⟨d1, d2, d3⟩ := keepD sB
      refine ⟨acc, d1, by omega, ρ5, acc ++ [v], done ++ [y], rs, ?_, ?_, upd_same, ?_, by simp; omega, nB, e6, by rw [ey, List.append_assoc]; rfl⟩
      · have z4 : Szs K (upd G4 D (.lst (acc ++ [v]))) := by
          have z0 := sB.hold.sz
          refine ⟨fun a xs q => ?_, fun a xs q => ?_⟩
          · by_cases ha : a = D
            · subst ha
              rcases q with (q | ⟨o, q⟩) | q
              · rw [upd_same] at q; cases q; simp; omega
              · rw [upd_same] at q; cases q
              · exact z0.lst a xs (.inr q)
            · rcases q with (q | ⟨o, q⟩) | q
              · rw [upd_ne ha] at q; exact z0.lst a xs (.inl (.inl q))
              · rw [upd_ne ha] at q; exact z0.lst a xs (.inl (.inr ⟨o, q⟩))
              · exact z0.lst a xs (.inr q)
          · by_cases ha : a = D
            · subst ha
              rcases q with (q | ⟨o, q⟩) | q
              · rw [upd_same] at q; cases q
              · rw [upd_same] at q; cases q
              · exact z0.tup a xs (.inr q)
            · rcases q with (q | ⟨o, q⟩) | q
              · rw [upd_ne ha] at q; exact z0.tup a xs (.inl (.inl q))
              · rw [upd_ne ha] at q; exact z0.tup a xs (.inl (.inr ⟨o, q⟩))
              · exact z0.tup a xs (.inr q)
        exact (st.trans sB).poke hD d3 d1 z4
      · rintro m' ⟨j, s, x, h1, h2, h3⟩
        have ok := sB.hold.ok j s x h1 h2
        have stq := ok.stay (H' := upd G4 D (.lst (acc ++ [v]))) ⟨fun b ys q => by rw [upd_ne (fun z => by subst z; rw [d1] at q; cases q)]; exact q, fun b o w q => by rw [upd_ne (fun z => by subst z; rw [d1] at q; cases q)]; exact q⟩ fun m b hb => by
          rw [upd_ne]
          rintro rfl
          exact d3 m ⟨j, s, x, h1, h2, hb⟩
        exact d3 m' ⟨j, s, x, h1, h2, stq.2 m' D h3⟩
      · exact (d2.append (.cons rv .nil)).stb ⟨fun b ys q => by rw [upd_ne (fun z => by subst z; rw [d1] at q; cases q)]; exact q, fun b o w q => by rw [upd_ne (fun z => by subst z; rw [d1] at q; cases q)]; exact q⟩
  · have ei : i = ds.length := by omega
    subst ei
    refine .inl ⟨fd.stop _ G st.stb (Nat.le_refl _), ?_⟩
    rw [List.drop_length] at ec
    cases ec
    rw [List.append_nil] at ey
    subst ey
    have s2 : Stp K ρw σ H1 ρf σ G := st.un wl.symm (fun j hj => (wipe_out (nw j hj)).symm) wl.symm fun j hj => (wipe_out (nu j hj)).symm
    have s3 := s1.trans (sw.trans s2)
    refine k (.ref D) G s3 ⟨⟨D, acc, rfl, gD, ra⟩, fun b hb => ?_⟩
    cases hb
    refine ⟨?_, fun m q => nD m (owned_un wl.symm (fun j hj => (wipe_out (nu j hj)).symm) q)⟩
    cases e : H D with
    | none => rfl
    | some u => exact absurd hD (s1.trk D (by rw [e]; simp))
theorem oe_lc {elt tg iter : Expr} {ifs : List Expr} {scope : Scope} {own : List (Str × Nat)} {pos : Pos} {it : IM} {g : GM} {t : TM} {m : VM} (hc : X.calm = true) (hN : X.N.Nodup) (ok : BlkOk X.N X.env.scope scope own) (hi : IE X tg iter it)
    (hg : ∀ (s : Shared) (H : Hp) (C : Addr) (cl : List (Str × Addr)) (fp : List Addr), GE (X.blk s H scope (compEnvC scope cl C X.env) fp) tg g (own.map (·.2)))
    (ht : ∀ (s : Shared) (H : Hp) (C : Addr) (cl : List (Str × Addr)) (fp : List Addr), BTs (X.blk s H scope (compEnvC scope cl C X.env) fp) ifs t)
    (he : ∀ (s : Shared) (H : Hp) (C : Addr) (cl : List (Str × Addr)) (fp : List Addr), VE (X.blk s H scope (compEnvC scope cl C X.env) fp) elt m) (hs : ∀ x, foldedSetIterable iter X.env x = pure x := by intro _; rfl) :
    OE X (.ListComp elt [⟨tg, iter, ifs, 0⟩] scope pos) (oLc it g t m (own.map (·.2))) := by
  refine pem (pe_lc (te := tV X.kw m) (g := tG X.kw g (own.map (·.2))) (tt := tT X.kw t) hc hN hi ok hg ht he hs) fun σ H Q h => ?_
  exact lc_read h
/-- y = [..] where the target is stored within the block's frame -/
theorem se_setLc (i : Nat) {y : Str} {py : Pos} {elt tg iter : Expr} {ifs : List Expr} {scope : Scope} {own : List (Str × Nat)} {pos spos : Pos} {it : IM} {g : GM} {t : TM} {m : VM} (hc : X.calm = true) (hN : X.N.Nodup) (hy : X.N[i]? = some y) (hyl : X.env.scope.names.lookup y = some .local)
    (hsw : swapsWith (.ListComp elt [⟨tg, iter, ifs, 0⟩] scope pos) (some (.Name y py)) spos.line X.env = pure true) (ok : BlkOk X.N X.env.scope scope own) (hi : IE X tg iter it)
    (hg : ∀ (s : Shared) (H : Hp) (C : Addr) (cl : List (Str × Addr)) (fp : List Addr), GE (X.blk s H scope (compEnvC scope cl C X.env) fp) tg g (own.map (·.2)))
    (ht : ∀ (s : Shared) (H : Hp) (C : Addr) (cl : List (Str × Addr)) (fp : List Addr), BTs (X.blk s H scope (compEnvC scope cl C X.env) fp) ifs t)
    (he : ∀ (s : Shared) (H : Hp) (C : Addr) (cl : List (Str × Addr)) (fp : List Addr), VE (X.blk s H scope (compEnvC scope cl C X.env) fp) elt m) (hs : ∀ x, foldedSetIterable iter X.env x = pure x := by intro _; rfl) :
    SE X (.Assign [.Name y py] (.ListComp elt [⟨tg, iter, ifs, 0⟩] scope pos) spos) (sSetO i (oLc it g t m (own.map (·.2)))) := by
  refine psm (ps_setLc (te := tV X.kw m) (g := tG X.kw g (own.map (·.2))) (tt := tT X.kw t) (i := i) hc hN hy hyl hsw hi ok hg ht he hs) fun D σ H ⟨ρ, f, ρ', hh, em, k⟩ => ?_
  obtain ⟨⟨d, ρ1⟩, e1, em⟩ := Option.bind_eq_some_iff.mp em
  obtain ⟨ρ2, e2, em⟩ := Option.map_eq_some_iff.mp em
  cases em
  exact lc_read ⟨ρ, d, ρ1, hh, e1, fun v H1 s1 n => k _ H1 (s1.putO n e2)⟩
end
end Vx
/-! Vx6: defs over data trees: promises, calls, lists that are ours. -/
namespace Vx
open PySem PySem.Spec L2

abbrev DenF := Rho → Option (Rv × Rho)
def inOk (ρ : Rho) : Prop := ∀ (i : Nat) (s : Sl), ρ[i]? = some s → (∃ d, s = .val d) ∨ ∃ o, s = .io o
structure CallEnd (K : KW) (ρ : Rho) (σ : L2.St) (H : Hp) (ρ' : Rho) (H' : Hp) (rv : Rv) (v : V) : Prop where
  stp : Stp K ρ σ H ρ' σ H'
  rv : RvOk K ρ σ H ρ' σ H' v rv
def spF (K : KW) (n : Nat) (F : DenF) : Sp := fun vs H Q _ => ∃ ρ rv ρ', vs.length = n ∧ Hold K ρ (vs.map some) H ∧ inOk ρ ∧ F ρ = some (rv, ρ') ∧ ∀ v H', CallEnd K ρ (vs.map some) H ρ' H' rv v → Q v H'
def backIn : Rho → Rho → Rho
  | [], _ => []
  | .io _ :: ρ, s :: ρ' => s :: backIn ρ ρ'
  | .io o :: ρ, [] => .io o :: backIn ρ []
  | s :: ρ, ρ' => s :: backIn ρ ρ'.tail
def pickB : Sl → Option Sl → Sl
  | .io o, x => x.getD (.io o)
  | s, _ => s
theorem backIn_get : ∀ {ρ ρ' : Rho} {i : Nat} {s : Sl}, ρ[i]? = some s → (backIn ρ ρ')[i]? = some (pickB s ρ'[i]?)
  | [], ρ', i, s, h => by simp at h
  | t :: ρ, ρ', 0, s, h => by
    have e : t = s := by simpa using h
    subst e
    cases t <;> cases ρ' <;> simp [backIn, pickB]
  | t :: ρ, ρ', i + 1, s, h => by
    have h' : ρ[i]? = some s := by simpa using h
    cases t <;> cases ρ' <;> simp [backIn, backIn_get h']
theorem backIn_len : ∀ {ρ ρ' : Rho}, (backIn ρ ρ').length = ρ.length
  | [], _ => rfl
  | t :: ρ, ρ' => by cases t <;> cases ρ' <;> simp [backIn, backIn_len]
def fnD (k n : Nat) (B : SM) : DenF := fun ρ => if ρ.length = k then match B (ρ ++ List.replicate (n - k) .un) with
    | some (.rt rv, ρ') => some (rv, backIn ρ ρ')
    | some (.nx, ρ') => some (.val .none, backIn ρ ρ')
    | _ => none
  else none

section
variable {P : Program} {w : World} {K : KW} {mg : Str → Option Value} {base : Heap}
theorem body_end {k n : Nat} {ρ ρ' : Rho} {vs : List V} {σ' : L2.St} {H H' : Hp} (hh : Hold K ρ (vs.map some) H) (io : inOk ρ) (s : Stp K (ρ ++ List.replicate (n - k) .un) (vs.map some ++ List.replicate (n - k) none) H ρ' σ' H') :
    Stp K ρ (vs.map some) H (backIn ρ ρ') (vs.map some) H' ∧ ∀ m b, owned m (backIn ρ ρ') (vs.map some) H' b → owned m ρ' σ' H' b := by
  have at1 : ∀ (i : Nat) (o : Own), ρ[i]? = some (.io o) → ∃ o', ρ'[i]? = some (.io o') ∧ σ'[i]? = (vs.map some)[i]? ∧ (backIn ρ ρ')[i]? = some (.io o') ∧ ∀ b x, (vs.map some)[i]? = some x → slFt true H' x (.io o') b → slFt true H x (.io o) b ∨ H b = none := fun i o e => by
    have hi := (List.getElem?_eq_some_iff.mp e).1
    have e1 : (ρ ++ List.replicate (n - k) Sl.un)[i]? = some (.io o) := by rw [List.getElem?_append_left hi]; exact e
    obtain ⟨o', e2, e3, f⟩ := s.io i o e1
    have hi2 : i < (vs.map some).length := by rw [hh.len]; exact hi
    rw [List.getElem?_append_left hi2] at e3
    refine ⟨o', e2, e3, ?_, fun b x hx => f b x ?_⟩
    · rw [backIn_get e, e2]; rfl
    · rw [List.getElem?_append_left hi2]; exact hx
  have at2 : ∀ (i : Nat) (d : PyData), ρ[i]? = some (.val d) → (backIn ρ ρ')[i]? = some (.val d) := fun i d e => by rw [backIn_get e]; rfl
  have cases' : ∀ (i : Nat) (t : Sl), (backIn ρ ρ')[i]? = some t → (∃ d, t = .val d ∧ ρ[i]? = some (.val d)) ∨ ∃ o o', t = .io o' ∧ ρ[i]? = some (.io o) ∧ ρ'[i]? = some (.io o') ∧ σ'[i]? = (vs.map some)[i]? := fun i t e => by
    have hi : i < ρ.length := by rw [← backIn_len (ρ' := ρ')]; exact (List.getElem?_eq_some_iff.mp e).1
    rcases io i _ (List.getElem?_eq_getElem hi) with ⟨d, q⟩ | ⟨o, q⟩
    · have q' : ρ[i]? = some (.val d) := by rw [List.getElem?_eq_getElem hi, q]
      rw [at2 i d q'] at e
      cases e
      exact .inl ⟨d, rfl, q'⟩
    · have q' : ρ[i]? = some (.io o) := by rw [List.getElem?_eq_getElem hi, q]
      obtain ⟨o', e2, e3, e4, _⟩ := at1 i o q'
      rw [e4] at e
      cases e
      exact .inr ⟨o, o', rfl, q', e2, e3⟩
  have own' : ∀ m b, owned m (backIn ρ ρ') (vs.map some) H' b → owned m ρ' σ' H' b := fun m b ⟨i, t, x, h1, h2, h3⟩ => by
    rcases cases' i t h1 with ⟨d, rfl, _⟩ | ⟨o, o', rfl, q1, q2, q3⟩
    · exact h3.elim
    · exact ⟨i, _, x, q2, by rw [q3]; exact h2, h3⟩
  have ext : ∀ m b, owned m (ρ ++ List.replicate (n - k) Sl.un) (vs.map some ++ List.replicate (n - k) none) H b → owned m ρ (vs.map some) H b := fun m b ⟨i, t, x, h1, h2, h3⟩ => by
    by_cases hi : i < ρ.length
    · rw [List.getElem?_append_left hi] at h1
      rw [List.getElem?_append_left (by rw [hh.len]; exact hi)] at h2
      exact ⟨i, t, x, h1, h2, h3⟩
    · rw [List.getElem?_append_right (by omega)] at h1
      have : t = .un := by
        rw [List.getElem?_replicate] at h1
        split at h1
        · exact (Option.some.inj h1).symm
        · cases h1
      subst this
      exact h3.elim
  refine ⟨⟨⟨by rw [backIn_len]; exact hh.len, fun i t x h1 h2 => ?_, fun i j t u x y b m n' ne h1 h2 h3 h4 f1 f2 => ?_, s.hold.sz⟩, s.stb, fun b o q nn => s.keep b o q fun m z => nn m (ext m b z), fun m b q => ?_, s.trk, fun i o e => ?_⟩, own'⟩
  · rcases cases' i t h1 with ⟨d, rfl, q⟩ | ⟨o, o', rfl, q1, q2, q3⟩
    · obtain ⟨v, ev, r⟩ := hh.ok i _ x q h2
      exact ⟨v, ev, r.stb s.stb⟩
    · exact s.hold.ok i _ x q2 (by rw [q3]; exact h2)
  · rcases cases' i t h1 with ⟨d, rfl, q⟩ | ⟨o, o', rfl, q1, q2, q3⟩
    · exact f1.elim
    rcases cases' j u h2 with ⟨d, rfl, q⟩ | ⟨p, p', rfl, r1, r2, r3⟩
    · exact f2.elim
    exact s.hold.sep i j _ _ x y b m n' ne q2 r2 (by rw [q3]; exact h3) (by rw [r3]; exact h4) f1 f2
  · exact (s.fresh m b (own' m b q)).elim (fun z => .inl (ext m b z)) .inr
  · obtain ⟨o', e2, e3, e4, f⟩ := at1 i o e
    exact ⟨o', e4, rfl, f⟩
theorem Hold.start {ρ : Rho} {σ : L2.St} {H : Hp} (h : Hold K ρ σ H) (n : Nat) : Hold K (ρ ++ List.replicate n .un) (σ ++ List.replicate n none) H := by
  refine ⟨by simp [h.len], fun i t x h1 h2 => ?_, fun i j t u x y b m n' ne h1 h2 h3 h4 f1 f2 => ?_, h.sz⟩
  · by_cases hi : i < ρ.length
    · rw [List.getElem?_append_left hi] at h1
      rw [List.getElem?_append_left (by rw [h.len]; exact hi)] at h2
      exact h.ok i t x h1 h2
    · rw [List.getElem?_append_right (by omega), List.getElem?_replicate] at h1
      split at h1
      · cases h1; trivial
      · cases h1
  · have low : ∀ {i : Nat} {t : Sl} {x : Option V} {m b}, (ρ ++ List.replicate n Sl.un)[i]? = some t → slFt m H x t b → i < ρ.length := fun {i t x m b} h1 f => by
      by_cases hi : i < ρ.length
      · exact hi
      · rw [List.getElem?_append_right (by omega), List.getElem?_replicate] at h1
        split at h1
        · cases h1; exact f.elim
        · cases h1
    have i1 := low h1 f1
    have i2 := low h2 f2
    rw [List.getElem?_append_left i1] at h1
    rw [List.getElem?_append_left i2] at h2
    rw [List.getElem?_append_left (by rw [h.len]; exact i1)] at h3
    rw [List.getElem?_append_left (by rw [h.len]; exact i2)] at h4
    exact h.sep i j t u x y b m n' ne h1 h2 h3 h4 f1 f2
/-- THE RULE for a def: its body over data -/
theorem fn_ok {K : PySem.W.Frag} {x qual : Str} {params : Arguments} {body : List Stmt} {scope : Scope} {dvs : List V} {kws : List (Str × V)} {f : Addr} {fd : FuncData} {N ps : List Str} {k : Nat} {B : SM} (F : FunD K x qual params body scope dvs kws f fd) (S : FnScope N ps scope) (hl : ps.length ≤ N.length)
    (hb : ∀ (cdv : Value) (A : Around) (outer : List Env) (s : Shared) (H : Hp) (E : XK), Room k (A.deeper (PyProof.Rows.envOfC qual scope s.heap.objs.size f cdv)) →
      SEs (cxOf CX0 P w K mg base N qual scope f cdv A outer s H E).nox body B) : FnOk P w K mg base CX0 (k + 1) f fd ps (spF ⟨K, w⟩ ps.length (fnD ps.length N.length B)) := by
  refine F.ok S (fun vs H Q E ⟨ρ, rv, ρ', h, _⟩ => h) fun cdv A outer s H vs Q E hr ⟨ρ, rv, ρ', hlen, hh, io, em, q⟩ => ⟨_, PSs.nox (hb cdv A outer s H E hr), ?_⟩
  have hρ : ρ.length = ps.length := by rw [← hh.len]; simpa using hlen
  unfold fnD at em
  rw [if_pos hρ] at em
  have hs : L2.start N vs = vs.map some ++ List.replicate (N.length - ps.length) none := by unfold L2.start; rw [hlen]
  rw [hs]
  have h0 := hh.start (N.length - ps.length)
  cases e : B (ρ ++ List.replicate (N.length - ps.length) .un) with
  | none => rw [e] at em; cases em
  | some p =>
    obtain ⟨fl, ρ1⟩ := p
    rw [e] at em
    refine ⟨_, fl, ρ1, h0, e, ?_⟩
    cases fl with
    | bk => cases em
    | ct => cases em
    | nx =>
      cases em
      intro σ' H' st
      exact q .non H' ⟨(body_end hh io st).1, .non⟩
    | rt r =>
      cases em
      intro v σ' H' st ok
      obtain ⟨b1, b2⟩ := body_end hh io st
      refine q v H' ⟨b1, ?_⟩
      cases rv with
      | val d => exact ok
      | own o =>
        refine ⟨ok.1, fun b hb => ⟨?_, fun m z => (ok.2 b hb).2 m (b2 m b z)⟩⟩
        rcases (ok.2 b hb).1 with z | ⟨i, t, x, h1, h2, h3⟩
        · exact .inl z
        · by_cases hi : i < ρ.length
          · rw [List.getElem?_append_left hi] at h1
            rcases io i t h1 with ⟨d, rfl⟩ | ⟨o, rfl⟩
            · exact h3.elim
            · obtain ⟨hm, _⟩ := h3
              cases hm
          · rw [List.getElem?_append_right (by omega), List.getElem?_replicate] at h1
            split at h1
            · cases h1; exact h3.elim
            · cases h1
end

/-! ### calls -/
inductive AV where
  | d (d : PyData)
  | io (j : Nat)
abbrev AsM := Rho → Option (List AV × Rho)
def AvOk (K : KW) (σ : L2.St) (H : Hp) (v : V) : AV → Prop
  | .d d => Rp K H v d
  | .io j => σ[j]? = some (some v)
theorem AvOk.stb {K : KW} {σ : L2.St} {H H' : Hp} {v : V} {a : AV} (h : AvOk K σ H v a) (st : Stb H H') : AvOk K σ H' v a := by
  cases a with
  | d d => exact Rp.stb st h
  | io j => exact h
def tAs (K : KW) (m : AsM) : TA := fun σ H Q => ∃ ρ as ρ', Hold K ρ σ H ∧ m ρ = some (as, ρ') ∧ ∀ vs H', Stp K ρ σ H ρ' σ H' → Paired (AvOk K σ H') vs as → Q vs H'
abbrev AE (X : Cx) (es : List Expr) (m : AsM) : Prop := PA X es (tAs X.kw m)
def aNil : AsM := fun ρ => some ([], ρ)
def aVal (m : VM) (n : AsM) : AsM := fun ρ => (m ρ).bind fun p => (n p.2).map fun q => (.d p.1 :: q.1, q.2)
def aIo (j : Nat) (n : AsM) : AsM := fun ρ => match ρ[j]? with
  | some (.own _) => (n ρ).map fun q => (.io j :: q.1, q.2)
  | some (.io _) => (n ρ).map fun q => (.io j :: q.1, q.2)
  | _ => none
def iosOf : List AV → List Nat
  | [] => []
  | .d _ :: as => iosOf as
  | .io j :: as => j :: iosOf as
def mkIn (ρ : Rho) : List AV → Option Rho
  | [] => some []
  | .d d :: as => (mkIn ρ as).map (.val d :: ·)
  | .io j :: as => match ρ[j]? with
    | some (.own o) => (mkIn ρ as).map (.io o :: ·)
    | some (.io o) => (mkIn ρ as).map (.io o :: ·)
    | _ => none
/-- what came back goes to the slots -/
def putB (ρ : Rho) : List AV → Rho → Option Rho
  | [], [] => some ρ
  | .d _ :: as, _ :: τ => putB ρ as τ
  | .io j :: as, .io o :: τ => match ρ[j]? with
    | some (.own _) => putB (ρ.set j (.own o)) as τ
    | some (.io _) => putB (ρ.set j (.io o)) as τ
    | _ => none
  | _, _ => none
def cCall (F : DenF) (m : AsM) : Rho → Option (Rv × Rho) := fun ρ => (m ρ).bind fun p => if (iosOf p.1).Nodup then (mkIn p.2 p.1).bind fun ρ0 => (F ρ0).bind fun q => (putB p.2 p.1 q.2).map fun ρ2 => (q.1, ρ2) else none
def dCl (F : DenF) (m : AsM) : VM := fun ρ => (cCall F m ρ).bind fun p => match p.1 with
  | .val d => some (d, p.2)
  | _ => none
def oCl (F : DenF) (m : AsM) : OM := fun ρ => (cCall F m ρ).bind fun p => match p.1 with
  | .own o => some (o, p.2)
  | _ => none
section
variable {X : Cx} {e : Expr} {es : List Expr} {pos : Pos}
theorem ae_nil : AE X [] aNil := by
  refine pam pa_nil fun σ H Q ⟨ρ, r, ρ', hh, em, k⟩ => ?_
  cases em
  exact k [] H (.refl hh) .nil
theorem ae_val {m : VM} {n : AsM} (he : VE X e m) (hr : AE X es n) (hs : starEach (e :: es) X.env = (false, eval e X.env) :: starEach es X.env := by rfl) : AE X (e :: es) (aVal m n) := by
  refine pam (pa_cons he hr hs) fun σ H Q ⟨ρ, r, ρ', hh, em, k⟩ => ?_
  obtain ⟨⟨ra, ρ1⟩, e1, em⟩ := Option.bind_eq_some_iff.mp em
  obtain ⟨⟨rs, ρ2⟩, e2, em⟩ := Option.map_eq_some_iff.mp em
  cases em
  exact ⟨ρ, ra, ρ1, hh, e1, fun x H1 s1 ok1 => ⟨ρ1, rs, _, s1.hold, e2, fun xs H2 s2 ok2 => k (x :: xs) H2 (s1.trans s2) (.cons (Rp.stb s2.stb ok1) ok2)⟩⟩
theorem ae_io (j : Nat) {x : Str} {p : Pos} {n : AsM} (hr : AE X es n) (hN : X.N[j]? = some x := by rfl) (hv : Vis X.env.scope x := by first | exact Or.inl rfl | exact Or.inr (Or.inl rfl) | exact Or.inr (Or.inr rfl)) (hd : (x == ("__debug__" : Str)) = false := by decide)
    (hcd : (x == ("__classdict__" : Str)) = false := by decide) (hs : starEach (.Name x p :: es) X.env = (false, eval (.Name x p) X.env) :: starEach es X.env := by rfl) : AE X (.Name x p :: es) (aIo j n) := by
  refine pam (pa_cons (pe_var (pos := p) hN hv hd hcd) hr hs) fun σ H Q ⟨ρ, r, ρ', hh, em, k⟩ => ?_
  unfold aIo at em
  have main : (∃ o, ρ[j]? = some (.own o) ∨ ρ[j]? = some (.io o)) → Option.map (fun q => (AV.io j :: q.1, q.2)) (n ρ) = some (r, ρ') → ∃ v, σ[j]? = some (some v) ∧ tAs X.kw n σ H fun xs H2 => Q (v :: xs) H2 := fun ⟨o, ho⟩ em => by
    have ⟨v, hv⟩ : ∃ v, σ[j]? = some (some v) := by
      rcases ho with ho | ho
      · have hi : j < σ.length := by rw [hh.len]; exact (List.getElem?_eq_some_iff.mp ho).1
        obtain ⟨v, ev, _⟩ := hh.ok j _ _ ho (List.getElem?_eq_getElem hi)
        exact ⟨v, by rw [List.getElem?_eq_getElem hi, ev]⟩
      · have hi : j < σ.length := by rw [hh.len]; exact (List.getElem?_eq_some_iff.mp ho).1
        obtain ⟨v, ev, _⟩ := hh.ok j _ _ ho (List.getElem?_eq_getElem hi)
        exact ⟨v, by rw [List.getElem?_eq_getElem hi, ev]⟩
    obtain ⟨⟨rs, ρ2⟩, e2, em⟩ := Option.map_eq_some_iff.mp em
    cases em
    exact ⟨v, hv, ρ, rs, _, hh, e2, fun xs H2 s2 ok2 => k (v :: xs) H2 s2 (.cons hv ok2)⟩
  cases q : ρ[j]? with
  | none => rw [q] at em; cases em
  | some s =>
    rw [q] at em
    cases s with
    | un => cases em
    | val d => cases em
    | own o => exact main ⟨o, .inl q⟩ em
    | io o => exact main ⟨o, .inr q⟩ em
/-- the slots that a call is given, seen from the caller -/
theorem mkIn_spec {K : KW} {ρ : Rho} {σ : L2.St} {H : Hp} {vs : List V} {as : List AV} (r : Paired (AvOk K σ H) vs as) : ∀ {ρ0 : Rho}, mkIn ρ as = some ρ0 →
    ρ0.length = vs.length ∧ ∀ (i : Nat) (s : Sl), ρ0[i]? = some s → (∃ d v, s = Sl.val d ∧ vs[i]? = some v ∧ Rp K H v d ∧ as[i]? = some (AV.d d)) ∨ ∃ j o v, s = Sl.io o ∧ as[i]? = some (AV.io j) ∧ vs[i]? = some v ∧ σ[j]? = some (some v) ∧ (ρ[j]? = some (Sl.own o) ∨ ρ[j]? = some (Sl.io o)) := by
  induction r with
  | nil => intro ρ0 e; cases e; exact ⟨rfl, fun i s h => by simp at h⟩
  | @cons v a vs as r t ih =>
    intro ρ0 e
    cases a with
    | d d =>
      obtain ⟨ρ1, e1, rfl⟩ := Option.map_eq_some_iff.mp e
      obtain ⟨l, ih⟩ := ih e1
      refine ⟨by simp [l], fun i s h => ?_⟩
      cases i with
      | zero => cases h; exact .inl ⟨d, v, rfl, rfl, r, rfl⟩
      | succ i => simpa using ih i s (by simpa using h)
    | io j =>
      have main : ∀ o, (ρ[j]? = some (Sl.own o) ∨ ρ[j]? = some (Sl.io o)) → (mkIn ρ as).map (Sl.io o :: ·) = some ρ0 → ρ0.length = (v :: vs).length ∧ ∀ (i : Nat) (s : Sl), ρ0[i]? = some s → (∃ d v', s = Sl.val d ∧ (v :: vs)[i]? = some v' ∧ Rp K H v' d ∧ (AV.io j :: as)[i]? = some (AV.d d)) ∨ ∃ j' o v', s = Sl.io o ∧ (AV.io j :: as)[i]? = some (AV.io j') ∧ (v :: vs)[i]? = some v' ∧ σ[j']? = some (some v') ∧ (ρ[j']? = some (Sl.own o) ∨ ρ[j']? = some (Sl.io o)) := fun o ho e => by
        obtain ⟨ρ1, e1, rfl⟩ := Option.map_eq_some_iff.mp e
        obtain ⟨l, ih⟩ := ih e1
        refine ⟨by simp [l], fun i s h => ?_⟩
        cases i with
        | zero => cases h; exact .inr ⟨j, o, v, rfl, rfl, rfl, r, ho⟩
        | succ i => simpa using ih i s (by simpa using h)
      unfold mkIn at e
      cases q : ρ[j]? with
      | none => rw [q] at e; cases e
      | some s =>
        rw [q] at e
        cases s with
        | un => cases e
        | val d => cases e
        | own o => exact main o (.inl q) e
        | io o => exact main o (.inr q) e
theorem mem_ios : ∀ {as : List AV} {i j : Nat}, as[i]? = some (AV.io j) → j ∈ iosOf as
  | [], _, _, h => by simp at h
  | .d d :: as, 0, _, h => by cases h
  | .d d :: as, i + 1, j, h => by simpa [iosOf] using mem_ios (as := as) (by simpa using h)
  | .io k :: as, 0, j, h => by cases h; simp [iosOf]
  | .io k :: as, i + 1, j, h => by
    have := mem_ios (as := as) (i := i) (j := j) (by simpa using h)
    simp [iosOf, this]
theorem ios_inj : ∀ (as : List AV) (i k j : Nat), (iosOf as).Nodup → as[i]? = some (AV.io j) → as[k]? = some (AV.io j) → i = k
  | [], _, _, _, _, h, _ => by simp at h
  | .d d :: as, 0, _, _, _, h, _ => by cases h
  | .d d :: as, i + 1, 0, _, _, _, h => by cases h
  | .d d :: as, i + 1, k + 1, j, n, h, h' => congrArg Nat.succ (ios_inj as i k j n (by simpa using h) (by simpa using h'))
  | .io l :: as, 0, 0, _, _, _, _ => rfl
  | .io l :: as, 0, k + 1, j, n, h, h' => by
    cases h
    exact absurd (mem_ios (as := as) (i := k) (by simpa using h')) (List.nodup_cons.mp n).1
  | .io l :: as, i + 1, 0, j, n, h, h' => by
    cases h'
    exact absurd (mem_ios (as := as) (i := i) (by simpa using h)) (List.nodup_cons.mp n).1
  | .io l :: as, i + 1, k + 1, j, n, h, h' => congrArg Nat.succ (ios_inj as i k j (List.nodup_cons.mp n).2 (by simpa using h) (by simpa using h'))
theorem of_ios : ∀ {as : List AV} {j : Nat}, j ∈ iosOf as → ∃ i : Nat, as[i]? = some (AV.io j)
  | .d d :: as, j, h => by obtain ⟨i, e⟩ := of_ios (as := as) (by simpa [iosOf] using h); exact ⟨i + 1, by simpa using e⟩
  | .io l :: as, j, h => by
    rcases List.mem_cons.mp (show j ∈ l :: iosOf as from h) with rfl | h
    · exact ⟨0, rfl⟩
    · obtain ⟨i, e⟩ := of_ios (as := as) h
      exact ⟨i + 1, by simpa using e⟩
/-- what the slots hold behind a call -/
theorem putB_spec : ∀ {as : List AV} {ρ τ ρ2 : Rho}, (iosOf as).Nodup → putB ρ as τ = some ρ2 → ρ2.length = ρ.length ∧ (∀ j : Nat, j ∉ iosOf as → ρ2[j]? = ρ[j]?) ∧
    ∀ i j : Nat, as[i]? = some (AV.io j) → ∃ o o', τ[i]? = some (Sl.io o') ∧ ((ρ[j]? = some (Sl.own o) ∧ ρ2[j]? = some (Sl.own o')) ∨ (ρ[j]? = some (Sl.io o) ∧ ρ2[j]? = some (Sl.io o')))
  | [], ρ, [], ρ2, _, e => by cases e; exact ⟨rfl, fun _ _ => rfl, fun i j h => by simp at h⟩
  | [], _, _ :: _, _, _, e => by cases e
  | .d _ :: as, ρ, [], ρ2, _, e => by cases e
  | .d _ :: as, ρ, t :: τ, ρ2, n, e => by
    obtain ⟨l, h1, h2⟩ := putB_spec (as := as) (τ := τ) n e
    refine ⟨l, h1, fun i j h => ?_⟩
    cases i with
    | zero => cases h
    | succ i => simpa using h2 i j (by simpa using h)
  | .io j :: as, ρ, [], ρ2, _, e => by cases e
  | .io j :: as, ρ, t :: τ, ρ2, n, e => by
    obtain ⟨nj, n'⟩ := List.nodup_cons.mp (show (j :: iosOf as).Nodup from n)
    cases t with
    | un => cases e
    | val d => cases e
    | own o => cases e
    | io o' =>
      unfold putB at e
      have main : ∀ (s s' : Sl) (o : Own), ρ[j]? = some s → ((s = .own o ∧ s' = .own o') ∨ (s = .io o ∧ s' = .io o')) → putB (ρ.set j s') as τ = some ρ2 → _ := fun s s' o hs hk e => by
        obtain ⟨l, h1, h2⟩ := putB_spec (as := as) (τ := τ) n' e
        have hj := (List.getElem?_eq_some_iff.mp hs).1
        refine (⟨by rw [l]; simp, fun k hk' => ?_, fun i k h => ?_⟩ : ρ2.length = ρ.length ∧ (∀ k : Nat, k ∉ iosOf (.io j :: as) → ρ2[k]? = ρ[k]?) ∧ ∀ i k : Nat, (AV.io j :: as)[i]? = some (AV.io k) → ∃ o o'', (Sl.io o' :: τ)[i]? = some (Sl.io o'') ∧ ((ρ[k]? = some (Sl.own o) ∧ ρ2[k]? = some (Sl.own o'')) ∨ (ρ[k]? = some (Sl.io o) ∧ ρ2[k]? = some (Sl.io o''))))
        · have hk2 : k ≠ j ∧ k ∉ iosOf as := by simpa [iosOf] using hk'
          rw [h1 k hk2.2, List.getElem?_set_ne (Ne.symm hk2.1)]
        · cases i with
          | zero =>
            cases h
            have e2 : ρ2[j]? = some s' := by rw [h1 j nj, List.getElem?_set_self hj]
            refine ⟨o, o', rfl, ?_⟩
            rcases hk with ⟨rfl, rfl⟩ | ⟨rfl, rfl⟩
            · exact .inl ⟨hs, e2⟩
            · exact .inr ⟨hs, e2⟩
          | succ i =>
            have hk3 : k ≠ j := by
              rintro rfl
              exact nj (mem_ios (as := as) (i := i) (by simpa using h))
            obtain ⟨o2, o3, q1, q2⟩ := h2 i k (by simpa using h)
            rw [List.getElem?_set_ne (Ne.symm hk3)] at q2
            exact ⟨o2, o3, by simpa using q1, q2⟩
      cases q : ρ[j]? with
      | none => rw [q] at e; cases e
      | some s =>
        rw [q] at e
        cases s with
        | un => cases e
        | val d => cases e
        | own o => exact main _ _ o q (.inl ⟨rfl, rfl⟩) e
        | io o => exact main _ _ o q (.inr ⟨rfl, rfl⟩) e
theorem call_run {K : KW} {ρ ρ2 ρ0 ρ0' : Rho} {σ : L2.St} {H : Hp} {vs : List V} {as : List AV} (hh : Hold K ρ σ H) (ok : Paired (AvOk K σ H) vs as) (nd : (iosOf as).Nodup) (e0 : mkIn ρ as = some ρ0) (e2 : putB ρ as ρ0' = some ρ2) :
    Hold K ρ0 (vs.map some) H ∧ inOk ρ0 ∧ ∀ H', Stp K ρ0 (vs.map some) H ρ0' (vs.map some) H' → Stp K ρ σ H ρ2 σ H' ∧ (∀ m b, owned m ρ2 σ H' b → (∃ n, owned n ρ0' (vs.map some) H' b) ∨ H b ≠ none) := by
  obtain ⟨l0, s0⟩ := mkIn_spec ok e0
  have lv : vs.length = as.length := Paired.length ok
  have back : ∀ m b, owned m ρ0 (vs.map some) H b → ∃ n, owned n ρ σ H b := fun m b ⟨i, s, x, h1, h2, h3⟩ => by
    rcases s0 i s h1 with ⟨d, v, rfl, _⟩ | ⟨j, o, v, rfl, ha, hv, hj, ho⟩
    · exact h3.elim
    · rw [List.getElem?_map, hv] at h2
      cases h2
      obtain ⟨_, v', ev, f⟩ := h3
      cases ev
      rcases ho with ho | ho
      · exact ⟨false, j, _, _, ho, hj, rfl, _, rfl, f⟩
      · exact ⟨true, j, _, _, ho, hj, rfl, _, rfl, f⟩
  have io : inOk ρ0 := fun i s h => by
    rcases s0 i s h with ⟨d, v, rfl, _⟩ | ⟨j, o, v, rfl, _⟩
    · exact .inl ⟨d, rfl⟩
    · exact .inr ⟨o, rfl⟩
  refine ⟨⟨by simp [l0], fun i s x h1 h2 => ?_, fun i k s t x y b m n ne h1 h2 h3 h4 f1 f2 => ?_, hh.sz⟩, io, fun H' st => ?_⟩
  · rcases s0 i s h1 with ⟨d, v, rfl, hv, rp, _⟩ | ⟨j, o, v, rfl, ha, hv, hj, ho⟩
    · rw [List.getElem?_map, hv] at h2
      cases h2
      exact ⟨v, rfl, rp⟩
    · rw [List.getElem?_map, hv] at h2
      cases h2
      rcases ho with ho | ho
      · have := hh.ok j (.own o) _ ho hj; exact this
      · exact hh.ok j (.io o) _ ho hj
  · rcases s0 i s h1 with ⟨d, v, rfl, _⟩ | ⟨j, o, v, rfl, ha, hv, hj, ho⟩
    · exact f1.elim
    rcases s0 k t h2 with ⟨d, v', rfl, _⟩ | ⟨j', o', v', rfl, ha', hv', hj', ho'⟩
    · exact f2.elim
    have nj : j ≠ j' := by
      rintro rfl
      exact ne (ios_inj _ _ _ _ nd ha ha')
    rw [List.getElem?_map, hv] at h3
    cases h3
    rw [List.getElem?_map, hv'] at h4
    cases h4
    obtain ⟨_, f1⟩ := f1
    obtain ⟨_, f2⟩ := f2
    rcases ho with ho | ho <;> rcases ho' with ho' | ho'
    · exact hh.sep j j' _ _ _ _ b false false nj ho ho' hj hj' ⟨rfl, f1⟩ ⟨rfl, f2⟩
    · exact hh.sep j j' _ _ _ _ b false true nj ho ho' hj hj' ⟨rfl, f1⟩ ⟨rfl, f2⟩
    · exact hh.sep j j' _ _ _ _ b true false nj ho ho' hj hj' ⟨rfl, f1⟩ ⟨rfl, f2⟩
    · exact hh.sep j j' _ _ _ _ b true true nj ho ho' hj hj' ⟨rfl, f1⟩ ⟨rfl, f2⟩
  · obtain ⟨l2, p1, p2⟩ := putB_spec nd e2
    -- an argument's slot
    have arg : ∀ (i j : Nat), as[i]? = some (AV.io j) → ∃ o o' v, ρ0[i]? = some (.io o) ∧ ρ0'[i]? = some (.io o') ∧ vs[i]? = some v ∧ σ[j]? = some (some v) ∧ ((ρ[j]? = some (.own o) ∧ ρ2[j]? = some (.own o')) ∨ (ρ[j]? = some (.io o) ∧ ρ2[j]? = some (.io o'))) ∧
        (∀ b, ownFt v H' o' b → ownFt v H o b ∨ H b = none) := fun i j h => by
      obtain ⟨o1, o', q1, q2⟩ := p2 i j h
      have hi : i < ρ0.length := by rw [l0, lv]; exact (List.getElem?_eq_some_iff.mp h).1
      rcases s0 i _ (List.getElem?_eq_getElem hi) with ⟨d, v, _, _, _, q⟩ | ⟨j', o, v, es, ha, hv, hj, ho⟩
      · rw [h] at q; cases q
      · rw [h] at ha
        cases ha
        have e3 : ρ0[i]? = some (.io o) := by rw [List.getElem?_eq_getElem hi, es]
        obtain ⟨o2, r1, r2, r3⟩ := st.io i o e3
        rw [q1] at r1
        cases r1
        have hx : (vs.map some)[i]? = some (some v) := by rw [List.getElem?_map, hv]; rfl
        refine ⟨o, o', v, e3, q1, hv, hj, ?_, fun b hb => (r3 b _ hx ⟨rfl, v, rfl, hb⟩).imp (fun ⟨_, v', ev, f⟩ => by cases ev; exact f) id⟩
        rcases q2 with ⟨z1, z2⟩ | ⟨z1, z2⟩ <;> rcases ho with ho | ho <;> rw [z1] at ho <;> cases ho
        · exact .inl ⟨z1, z2⟩
        · exact .inr ⟨z1, z2⟩
    have argOk : ∀ (i j : Nat), as[i]? = some (AV.io j) → ∀ (o' : Own) (v : V), ρ0'[i]? = some (.io o') → vs[i]? = some v → ownRep K H' v o' := fun i j h o' v h1 h2 => by
      obtain ⟨v', ev, r⟩ := st.hold.ok i _ (some v) h1 (by rw [List.getElem?_map, h2]; rfl)
      cases ev
      exact r
    -- another slot
    have oth : ∀ (j : Nat) (s : Sl) (x : Option V), j ∉ iosOf as → ρ[j]? = some s → σ[j]? = some x → slOk K H' x s ∧ (∀ m b, slFt m H' x s b → slFt m H x s b) := fun j s x hj h1 h2 =>
      (hh.ok j s x h1 h2).stay st.stb fun m b hb => by
        have t := hh.trk ⟨j, s, x, h1, h2, hb⟩
        cases e : H b with
        | none => exact absurd e t
        | some u =>
          refine st.keep b u e fun n ⟨i, s', x', g1, g2, g3⟩ => ?_
          rcases s0 i s' g1 with ⟨d, v, rfl, _⟩ | ⟨j', o, v, rfl, ha, hv, hj', ho⟩
          · exact g3.elim
          · rw [List.getElem?_map, hv] at g2
            cases g2
            obtain ⟨_, f⟩ := g3
            have nj : j ≠ j' := by rintro rfl; exact hj (mem_ios ha)
            rcases ho with ho | ho
            · exact hh.sep j j' _ _ _ _ b m false nj h1 ho h2 hj' hb ⟨rfl, f⟩
            · exact hh.sep j j' _ _ _ _ b m true nj h1 ho h2 hj' hb ⟨rfl, f⟩
    -- footprints behind the call come from the same slot
    have ft : ∀ (j : Nat) (s : Sl) (x : Option V), ρ2[j]? = some s → σ[j]? = some x → ∀ m b, slFt m H' x s b → (∃ s1, ρ[j]? = some s1 ∧ slFt m H x s1 b) ∨ H b = none := fun j s x h1 h2 m b f => by
      by_cases hj : j ∈ iosOf as
      · obtain ⟨i, ha⟩ := of_ios hj
        obtain ⟨o, o', v, g1, g2, g3, g4, g5, g6⟩ := arg i j ha
        rw [g4] at h2
        cases h2
        rcases g5 with ⟨z1, z2⟩ | ⟨z1, z2⟩
        · rw [z2] at h1
          cases h1
          obtain ⟨hm, v', ev, ff⟩ := f
          cases ev
          exact (g6 b ff).imp (fun q => ⟨_, z1, hm, v, rfl, q⟩) id
        · rw [z2] at h1
          cases h1
          obtain ⟨hm, v', ev, ff⟩ := f
          cases ev
          exact (g6 b ff).imp (fun q => ⟨_, z1, hm, v, rfl, q⟩) id
      · rw [p1 j hj] at h1
        exact .inl ⟨s, h1, (oth j s x hj h1 h2).2 m b f⟩
    have in0 : ∀ (i j : Nat) (s : Sl) (x : Option V) (m : Bool) (b : Addr), as[i]? = some (AV.io j) → ρ2[j]? = some s → σ[j]? = some x → slFt m H' x s b → ∃ o', ρ0'[i]? = some (.io o') ∧ (vs.map some)[i]? = some x ∧ slFt true H' x (.io o') b := fun i j s x m b ha h1 h2 f => by
      obtain ⟨o, o', v, g1, g2, g3, g4, g5, g6⟩ := arg i j ha
      rw [g4] at h2
      cases h2
      refine ⟨o', g2, by rw [List.getElem?_map, g3]; rfl, ?_⟩
      rcases g5 with ⟨z1, z2⟩ | ⟨z1, z2⟩
      · rw [z2] at h1
        cases h1
        exact ⟨rfl, f.2⟩
      · rw [z2] at h1
        cases h1
        exact ⟨rfl, f.2⟩
    refine ⟨⟨⟨by rw [l2]; exact hh.len, fun j s x h1 h2 => ?_, fun j k s t x y b m n ne h1 h2 h3 h4 f1 f2 => ?_, st.hold.sz⟩, st.stb, fun b o q nn => st.keep b o q fun m z => ?_, fun m b ⟨j, s, x, h1, h2, h3⟩ => ?_, st.trk, fun j o h => ?_⟩, fun m b ⟨j, s, x, h1, h2, h3⟩ => ?_⟩
    · by_cases hj : j ∈ iosOf as
      · obtain ⟨i, ha⟩ := of_ios hj
        obtain ⟨o, o', v, g1, g2, g3, g4, g5, g6⟩ := arg i j ha
        rw [g4] at h2
        cases h2
        have r := argOk i j ha o' v g2 g3
        rcases g5 with ⟨z1, z2⟩ | ⟨z1, z2⟩
        · rw [z2] at h1; cases h1; exact ⟨v, rfl, r⟩
        · rw [z2] at h1; cases h1; exact ⟨v, rfl, r⟩
      · rw [p1 j hj] at h1
        exact (oth j s x hj h1 h2).1
    · by_cases hj : j ∈ iosOf as
      · obtain ⟨i, ha⟩ := of_ios hj
        by_cases hk : k ∈ iosOf as
        · obtain ⟨i', ha'⟩ := of_ios hk
          obtain ⟨o1, q1, q2, q3⟩ := in0 i j s x m b ha h1 h3 f1
          obtain ⟨o2, r1, r2, r3⟩ := in0 i' k t y n b ha' h2 h4 f2
          have ni : i ≠ i' := by
            rintro rfl
            rw [ha] at ha'
            cases ha'
            exact ne rfl
          exact st.hold.sep i i' _ _ _ _ b true true ni q1 r1 q2 r2 q3 r3
        · rw [p1 k hk] at h2
          have f2' := (oth k t y hk h2 h4).2 n b f2
          rcases ft j s x h1 h3 m b f1 with ⟨s1, z1, z2⟩ | z
          · exact hh.sep j k _ _ _ _ b m n ne z1 h2 h3 h4 z2 f2'
          · exact hh.trk ⟨k, t, y, h2, h4, f2'⟩ z
      · rw [p1 j hj] at h1
        have f1' := (oth j s x hj h1 h3).2 m b f1
        rcases ft k t y h2 h4 n b f2 with ⟨s1, z1, z2⟩ | z
        · exact hh.sep j k _ _ _ _ b m n ne h1 z1 h3 h4 f1' z2
        · exact hh.trk ⟨j, s, x, h1, h3, f1'⟩ z
    · obtain ⟨n', z'⟩ := back m b z
      exact nn n' z'
    · rcases ft j s x h1 h2 m b h3 with ⟨s1, z1, z2⟩ | z
      · exact .inl ⟨j, s1, x, z1, h2, z2⟩
      · exact .inr z
    · by_cases hj : j ∈ iosOf as
      · obtain ⟨i, ha⟩ := of_ios hj
        obtain ⟨o1, o', v, g1, g2, g3, g4, g5, g6⟩ := arg i j ha
        rcases g5 with ⟨z1, z2⟩ | ⟨z1, z2⟩
        · rw [h] at z1; cases z1
        · refine ⟨o', z2, rfl, fun b x hx f => ?_⟩
          rcases ft j _ x z2 hx true b f with ⟨s1, y1, y2⟩ | z
          · rw [h] at y1; cases y1; exact .inl y2
          · exact .inr z
      · exact ⟨o, by rw [p1 j hj]; exact h, rfl, fun b x hx f => .inl ((oth j _ x hj h hx).2 true b f)⟩
    · by_cases hj : j ∈ iosOf as
      · obtain ⟨i, ha⟩ := of_ios hj
        obtain ⟨o', q1, q2, q3⟩ := in0 i j s x m b ha h1 h2 h3
        exact .inl ⟨true, i, _, _, q1, q2, q3⟩
      · rw [p1 j hj] at h1
        exact .inr (hh.trk ⟨j, s, x, h1, h2, (oth j s x hj h1 h2).2 m b h3⟩)
/-- a call, over data -/
theorem call_read {K : KW} {n : Nat} {F : DenF} {m : AsM} {σ : L2.St} {H : Hp} {E : XK} {rv : Rv} {ρ ρ' : Rho} {Q : VK} (hh : Hold K ρ σ H) (em : cCall F m ρ = some (rv, ρ')) (hn : ∀ ρ0 rv ρ1, F ρ0 = some (rv, ρ1) → ρ0.length = n)
    (k : ∀ v H', Stp K ρ σ H ρ' σ H' → (match rv with | .val d => Rp K H' v d | .own o => NewO K ρ' σ H H' v o) → Q v H') : tCall (spF K n F) [] E (tAs K m) σ H Q := by
  obtain ⟨⟨as, ρ1⟩, e1, em⟩ := Option.bind_eq_some_iff.mp em
  dsimp only at em
  by_cases nd : (iosOf as).Nodup
  · rw [if_pos nd] at em
    obtain ⟨ρ0, e2, em⟩ := Option.bind_eq_some_iff.mp em
    obtain ⟨⟨rv', ρ0'⟩, e3, em⟩ := Option.bind_eq_some_iff.mp em
    obtain ⟨ρ2, e4, em⟩ := Option.map_eq_some_iff.mp em
    cases em
    refine ⟨ρ, as, ρ1, hh, e1, fun vs H1 s1 ok => ?_⟩
    show spF K n F (vs ++ []) H1 Q E
    rw [List.append_nil]
    obtain ⟨h0, io0, run⟩ := call_run s1.hold ok nd e2 e4
    refine ⟨ρ0, _, ρ0', ?_, h0, io0, e3, fun v H2 ce => ?_⟩
    · have := h0.len; rw [List.length_map] at this; rw [this]; exact hn _ _ _ e3
    obtain ⟨s2, ow⟩ := run H2 ce.stp
    refine k v H2 (s1.trans s2) ?_
    have rvo := ce.rv
    cases rv' with
    | val d => exact rvo
    | own o =>
      refine ⟨rvo.1, fun b hb => ?_⟩
      obtain ⟨z1, z2⟩ := rvo.2 b hb
      have nb1 : H1 b = none := by
        rcases z1 with z | ⟨i, s, x, h1, h2, h3⟩
        · exact z
        · rcases io0 i s h1 with ⟨d, rfl⟩ | ⟨o, rfl⟩
          · exact h3.elim
          · obtain ⟨hm, _⟩ := h3
            cases hm
      refine ⟨?_, fun mm q => ?_⟩
      · cases e : H b with
        | none => rfl
        | some u => exact absurd nb1 (s1.trk b (by rw [e]; simp))
      · rcases ow mm b q with ⟨n', z⟩ | z
        · exact z2 n' z
        · exact z nb1
  · rw [if_neg nd] at em; cases em
variable {k n : Nat} {f : Addr} {fd : FuncData} {ps : List Str} {x : Str} {F : DenF} {p : Pos}
theorem ve_call {m : AsM} (G : FnOk X.prog X.w X.K X.mg X.base CX0 k f fd ps (spF X.kw n F)) (hr : Room k X.A) (hm : X.mg x = some (.ref f)) (hk : PySem.W.keepIn X.K (.ref f) = true) (hb : Binds X.K fd ps []) (hn : ∀ ρ0 rv ρ1, F ρ0 = some (rv, ρ1) → ρ0.length = n)
    (ha : AE X (e :: es) m) (hg : Gl X x := by rfl) (hdb : (x == ("__debug__" : Str)) = false := by decide) (he : starEach (e :: es) X.env = (false, eval e X.env) :: starEach es X.env := by rfl) (hpl : (backTo pos (starEach es X.env)).any (·.1) = false := by rfl) :
    VE X (.Call (.Name x p) (e :: es) [] pos) (dCl F m) := by
  refine pem (pe_call G hr hg hm hk hb .nil (pass0 (X := X)) ha hdb he hpl) fun σ H Q ⟨ρ, d, ρ', hh, em, q⟩ => ?_
  obtain ⟨⟨rv, ρ1⟩, e1, em⟩ := Option.bind_eq_some_iff.mp em
  cases rv with
  | own o => cases em
  | val d' =>
    cases em
    exact call_read hh e1 hn fun v H' s r => q v H' s r
theorem oe_call {m : AsM} (G : FnOk X.prog X.w X.K X.mg X.base CX0 k f fd ps (spF X.kw n F)) (hr : Room k X.A) (hm : X.mg x = some (.ref f)) (hk : PySem.W.keepIn X.K (.ref f) = true) (hb : Binds X.K fd ps []) (hn : ∀ ρ0 rv ρ1, F ρ0 = some (rv, ρ1) → ρ0.length = n)
    (ha : AE X (e :: es) m) (hg : Gl X x := by rfl) (hdb : (x == ("__debug__" : Str)) = false := by decide) (he : starEach (e :: es) X.env = (false, eval e X.env) :: starEach es X.env := by rfl) (hpl : (backTo pos (starEach es X.env)).any (·.1) = false := by rfl) :
    OE X (.Call (.Name x p) (e :: es) [] pos) (oCl F m) := by
  refine pem (pe_call G hr hg hm hk hb .nil (pass0 (X := X)) ha hdb he hpl) fun σ H Q ⟨ρ, d, ρ', hh, em, q⟩ => ?_
  obtain ⟨⟨rv, ρ1⟩, e1, em⟩ := Option.bind_eq_some_iff.mp em
  cases rv with
  | val d' => cases em
  | own o =>
    cases em
    exact call_read hh e1 hn fun v H' s r => q v H' s r
theorem fnD_len {k n : Nat} {B : SM} (ρ0 : Rho) (rv : Rv) (ρ1 : Rho) (h : fnD k n B ρ0 = some (rv, ρ1)) : ρ0.length = k := by
  unfold fnD at h
  by_cases e : ρ0.length = k
  · exact e
  · rw [if_neg e] at h; cases h
end
end Vx
/-! Vx7: the operations on data trees, each with its rule. -/
namespace Vx
open PySem PySem.Spec L2

/-! ### rules that the layer lacks -/
def rCatL (K : PySem.W.Frag) : R2 := fun x y H Q => ∃ l b xs zs, x = .ref l ∧ y = .ref b ∧ SqL K H l xs ∧ SqL K H b zs ∧ xs.length + zs.length ≤ sizeLine ∧ ∀ p, H p = none → Q (.ref p) (upd H p (.lst (xs ++ zs)))
def rInT (K : PySem.W.Frag) (neg : Bool) : R2 := fun x y H Q => ∃ d ds, Dp K H x d ∧ Dp K H y (.tuple ds) ∧ SeqAt.shaped d = true ∧ SeqAt.shaped (.tuple ds) = true ∧ Q (.bl (if neg then !ds.any fun z => PyData.eqv z d else ds.any fun z => PyData.eqv z d)) H
section
variable {X : Cx}
theorem op_catL : OpR X (binaryOp .Add) (rCatL X.K) := by
  intro pins s σ H x y v u Q I rx ry h
  obtain ⟨l, b, xs, zs, rfl, rfl, hH, hB, hz, q⟩ := h
  cases rx
  cases ry
  obtain ⟨its, r, ⟨⟨c1, d1, dt1, sl1⟩, n, e, a1, a2, a3⟩, z⟩ := I.list hH
  obtain ⟨its2, r2, ⟨⟨c2, d2, dt2, sl2⟩, n2, e2, b1, b2, b3⟩, z2⟩ := I.list hB
  simp only at a1 a3 b1 b3
  subst a1 a3 b1 b3
  have h1 := r.length
  have h2 := r2.length
  refine concat_meets ⟨_, e, rfl⟩ ⟨_, e2, rfl⟩ noFill_list_add seq_list_add PySem.F.slot_list_add PySem.F.entry_list_add (PySem.F.args_list_add_2 _ _) (PyProof.Rows.list_addW l b its.toArray its2.toArray n n2 d1 d2 sl1 sl2 (by simp; omega)) ⟨e, e2, ?_⟩
  have ea : its.toArray ++ its2.toArray = (its ++ its2).toArray := by simp
  rw [ea]
  exact ⟨.ref _, _, I.lnew (t' := s.toks) (r.append r2) (by rw [List.length_append]; omega), rfl, q _ I.fresh⟩
theorem op_inT (hu : X.A.units + 65 < cLine) : OpR X (compareOp .In) (rInT X.K false) := by
  intro pins s σ H x y v u Q I rx ry h
  obtain ⟨d, ds, hd, he, sd, se, q⟩ := h
  obtain ⟨as, r1⟩ := Dp.reads I d x v hd rx
  obtain ⟨bs, r2⟩ := Dp.reads I (.tuple ds) y u he ry
  have k1 : PyData.canLayAll0 ds = true := SeqAt.canLay_of_shaped se
  have k2 := SeqAt.canLay_of_shaped sd
  refine SeqAt.in_tuple_reads r2 r1 k1 k2 ?_ ⟨.bl _, H, I, rfl, q⟩
  have e1 : SeqAt.shaped d = true := sd
  unfold SeqAt.shaped at e1
  rw [Bool.and_eq_true] at e1
  have := of_decide_eq_true e1.2
  omega
theorem op_notInT (hu : X.A.units + 65 < cLine) : OpR X (compareOp .NotIn) (rInT X.K true) := by
  intro pins s σ H x y v u Q I rx ry h
  obtain ⟨d, ds, hd, he, sd, se, q⟩ := h
  obtain ⟨as, r1⟩ := Dp.reads I d x v hd rx
  obtain ⟨bs, r2⟩ := Dp.reads I (.tuple ds) y u he ry
  have k1 : PyData.canLayAll0 ds = true := SeqAt.canLay_of_shaped se
  have k2 := SeqAt.canLay_of_shaped sd
  refine SeqAt.notIn_tuple_reads r2 r1 k1 k2 ?_ ⟨.bl _, H, I, rfl, q⟩
  have e1 : SeqAt.shaped d = true := sd
  unfold SeqAt.shaped at e1
  rw [Bool.and_eq_true] at e1
  have := of_decide_eq_true e1.2
  omega
end

/-! ### what they compute -/
def gAdd : D2
  | .int i, .int j => some (.int (i + j))
  | .str x, .str y => if x.length + y.length ≤ sizeLine then some (.str (x ++ y)) else none
  | .tuple xs, .tuple ys => if xs.length + ys.length ≤ sizeLine then some (.tuple (xs ++ ys)) else none
  | .list xs, .list ys => if xs.length + ys.length ≤ sizeLine then some (.list (xs ++ ys)) else none
  | _, _ => none
def gCat : PyData → PyData → Option (List PyData)
  | .list xs, .list ys => if xs.length + ys.length ≤ sizeLine then some (xs ++ ys) else none
  | _, _ => none
def gSub : D2
  | .int i, .int j => some (.int (i - j))
  | _, _ => none
def gMul : D2
  | .int i, .int j => if (-(2 ^ 64) < i ∧ i < 2 ^ 64) ∨ (-(2 ^ 64) < j ∧ j < 2 ^ 64) then some (.int (i * j)) else none
  | _, _ => none
def gDiv : D2
  | .int i, .int j => if 0 < j ∧ j < 1073741824 then some (.int (i / j)) else none
  | _, _ => none
def gMod : D2
  | .int i, .int j => if 0 < j then some (.int (i % j)) else none
  | _, _ => none
def gShl : D2
  | .int i, .int j => if 0 ≤ j ∧ j ≤ 1000000 ∧ i.natAbs < 2 ^ 64 then some (.int (i * 2 ^ j.toNat)) else none
  | _, _ => none
def gShr : D2
  | .int i, .int j => if 0 ≤ j then some (.int (i / 2 ^ j.toNat)) else none
  | _, _ => none
def gBitAnd : D2
  | .int i, .int j => some (.int (Builtin.bitAnd i j))
  | _, _ => none
def gEq : D2 := fun a b => if SeqAt.shaped a = true ∧ SeqAt.shaped b = true then some (.bool (PyData.eqv a b)) else none
def gNe : D2 := fun a b => if SeqAt.shaped a = true ∧ SeqAt.shaped b = true then some (.bool (!PyData.eqv a b)) else none
def gLt : D2
  | .int i, .int j => some (.bool (decide (i < j)))
  | .str x, .str y => some (.bool (decide (x.cps.toList < y.cps.toList)))
  | _, _ => none
def gLe : D2
  | .int i, .int j => some (.bool (decide (i ≤ j)))
  | .str x, .str y => some (.bool (!decide (y.cps.toList < x.cps.toList)))
  | _, _ => none
def gGt : D2
  | .int i, .int j => some (.bool (decide (j < i)))
  | .str x, .str y => some (.bool (decide (y.cps.toList < x.cps.toList)))
  | _, _ => none
def gGe : D2
  | .int i, .int j => some (.bool (decide (j ≤ i)))
  | .str x, .str y => some (.bool (!decide (x.cps.toList < y.cps.toList)))
  | _, _ => none
def inSign (x z : Str) : Option Bool := match x.cps.toList with
  | [c] => some (decide (c ∈ z.cps.toList))
  | _ => none
def gIn : D2
  | d, .list ds => if SeqAt.shaped d = true ∧ SeqAt.shaped (.list ds) = true then some (.bool (ds.any fun z => PyData.eqv z d)) else none
  | d, .tuple ds => if SeqAt.shaped d = true ∧ SeqAt.shaped (.tuple ds) = true then some (.bool (ds.any fun z => PyData.eqv z d)) else none
  | .str x, .str z => (inSign x z).map .bool
  | _, _ => none
def gNotIn : D2
  | d, .list ds => if SeqAt.shaped d = true ∧ SeqAt.shaped (.list ds) = true then some (.bool (!ds.any fun z => PyData.eqv z d)) else none
  | d, .tuple ds => if SeqAt.shaped d = true ∧ SeqAt.shaped (.tuple ds) = true then some (.bool (!ds.any fun z => PyData.eqv z d)) else none
  | .str x, .str z => (inSign x z).map fun b => .bool !b
  | _, _ => none
def gIx : D2
  | .list ds, .int i => atI ds i
  | .tuple ds, .int i => atI ds i
  | .str z, .int i => if z.length ≤ sizeLine then (atI z.cps.toList i).map fun c => .str ⟨#[c]⟩ else none
  | _, _ => none
def cutL {α : Type} (xs : List α) (lo hi : Option Int) : List α := (xs.drop (HT.sIx xs.length 0 lo)).take (HT.sIx xs.length xs.length hi - HT.sIx xs.length 0 lo)
def gSl (a : PyData) (lo hi : Option Int) : Option PyData := match a with
  | .list ds => some (.list (cutL ds lo hi))
  | .tuple ds => some (.tuple (cutL ds lo hi))
  | .str z => if z.length ≤ sizeLine then some (.str (cutS z lo hi)) else none
  | _ => none
def gSlL (a : PyData) (lo hi : Option Int) : Option (List PyData) := match a with
  | .list ds => some (cutL ds lo hi)
  | _ => none
def gNeg : PyData → Option PyData
  | .int i => some (.int (-i))
  | _ => none
def gLen : DL
  | [.list ds] => some (.int ds.length)
  | [.tuple ds] => some (.int ds.length)
  | [.str z] => if z.length ≤ sizeLine then some (.int z.length) else none
  | _ => none
def gAbs : DL
  | [.int i] => some (.int (if i < 0 then -i else i))
  | _ => none
def gInt1 : DL
  | [.int i] => some (.int i)
  | [.bool b] => some (.int (if b then 1 else 0))
  | _ => none
def intsOf : List PyData → Option (List Int)
  | [] => some []
  | .int i :: ds => (intsOf ds).map (i :: ·)
  | _ => none
def boolsOf : List PyData → Option (List Bool)
  | [] => some []
  | .bool i :: ds => (boolsOf ds).map (i :: ·)
  | _ => none
def strsOf : List PyData → Option (List Str)
  | [] => some []
  | .str i :: ds => (strsOf ds).map (i :: ·)
  | _ => none
def maxI : List Int → Option Int
  | [] => none
  | x :: xs => some (xs.foldl max x)
def minI : List Int → Option Int
  | [] => none
  | x :: xs => some (xs.foldl min x)
def gMax : DL
  | [.list ds] => (intsOf ds).bind fun ns => (maxI ns).map .int
  | [.int i, .int j] => some (.int (if j > i then j else i))
  | _ => none
def gMin : DL
  | [.list ds] => (intsOf ds).bind fun ns => (minI ns).map .int
  | [.int i, .int j] => some (.int (if j < i then j else i))
  | _ => none
def gSum : DL
  | [.list ds] => (intsOf ds).map fun ns => .int ns.sum
  | _ => none
def gAny : DL
  | [.list ds] => (boolsOf ds).map fun bs => .bool (bs.any id)
  | _ => none
def gAll2 : DL
  | [.list ds] => (boolsOf ds).map fun bs => .bool (bs.all id)
  | _ => none
def gTuple : DL
  | [.list ds] => some (.tuple ds)
  | [.tuple ds] => some (.tuple ds)
  | _ => none
def gList : List PyData → Option (List PyData)
  | [.list ds] => some ds
  | [.tuple ds] => some ds
  | _ => none
def gStrI : DL
  | [.int i] => if i.natAbs.log2 < 1920 then some (.str (toString i)) else none
  | _ => none

/-! ### the rules -/
section
variable {K : KW}
theorem res_rp {H H' : Hp} {v : V} {d : PyData} (h : Rp K H' v d) : Res K H H' v d := .inl h
theorem OpD.or {r r' : R2} {g : D2} (hd : ∀ (x y : V) (H : Hp) (a b d : PyData) (Q : VK), Szs K H → Bq K H x a → Bq K H y b → g a b = some d → (∀ v H', Same H H' → Res K H H' v d → Q v H') → r x y H Q ∨ r' x y H Q) : OpD K (fun x y H Q => r x y H Q ∨ r' x y H Q) g := hd
theorem bq_list {H : Hp} {v : V} {ds : List PyData} (h : Bq K H v (.list ds)) : ∃ a xs, v = .ref a ∧ SqL K.K H a xs ∧ RpA K H xs ds := h.list
theorem opd_i0 {g : D2} {f : Int → Int → V} (hg : ∀ a b d, g a b = some d → ∃ i j, a = .int i ∧ b = .int j ∧ ∀ H, Rp K H (f i j) d) : OpD K (rI0 f) g := by
  intro x y H a b d Q z ba bb e k
  obtain ⟨i, j, rfl, rfl, r⟩ := hg a b d e
  exact ⟨i, j, ba.int, bb.int, k _ H (Same.refl _) (.inl (r H))⟩
theorem opd_i {g : D2} {C : Int → Int → Prop} {f : Int → Int → V} (hg : ∀ a b d, g a b = some d → ∃ i j, a = .int i ∧ b = .int j ∧ C i j ∧ ∀ H, Rp K H (f i j) d) : OpD K (rI C f) g := by
  intro x y H a b d Q z ba bb e k
  obtain ⟨i, j, rfl, rfl, c, r⟩ := hg a b d e
  exact ⟨i, j, ba.int, bb.int, c, k _ H (Same.refl _) (.inl (r H))⟩
end
section
variable {X : Cx}
def rAddA (K : PySem.W.Frag) : R2 := fun x y H Q => rI0 (fun i j => .int (i + j)) x y H Q ∨ ((∃ i j, x = .str i ∧ y = .str j ∧ i.length + j.length ≤ sizeLine ∧ Q (.str (i ++ j)) H) ∨ (rCatA K x y H Q ∨ rCatL K x y H Q))
theorem op_addA : OpR X (binaryOp .Add) (rAddA X.K) := op_add.or (op_add_str.or (op_catA.or op_catL))
theorem opd_add {K : KW} : OpD K (rAddA K.K) gAdd := by
  intro x y H a b d Q z ba bb e k
  unfold gAdd at e
  split at e
  · rename_i i j
    cases e
    exact .inl ⟨i, j, ba.int, bb.int, k _ H (Same.refl _) (.inl (.int _))⟩
  · rename_i i j
    split at e
    · rename_i hl
      cases e
      exact .inr (.inl ⟨i, j, ba.str, bb.str, hl, k _ H (Same.refl _) (.inl (.str _))⟩)
    · cases e
  · rename_i xs ys
    split at e
    · rename_i hl
      cases e
      obtain ⟨p, us, rfl, s1, r1⟩ := ba.tuple
      obtain ⟨q, ws, rfl, s2, r2⟩ := bb.tuple
      refine .inr (.inr (.inl ⟨p, q, us, ws, rfl, rfl, s1, s2, by rw [r1.length, r2.length]; exact hl, fun e => ?_, fun _ e => ?_, fun _ _ o ho => ?_⟩))
      · subst e
        cases r1
        exact k _ H (Same.refl _) (.inl (.tup s2 r2))
      · subst e
        cases r2
        rw [List.append_nil]  at k
        exact k _ H (Same.refl _) (.inl (.tup s1 r1))
      · refine k _ _ (same_new ho) (.inl (.tup (.inl (.inl upd_same)) ((r1.append r2).stb ⟨fun b ys q => same_new ho _ _ q, fun b o w q => same_new ho _ _ q⟩)))
    · cases e
  · rename_i xs ys
    split at e
    · rename_i hl
      cases e
      obtain ⟨p, us, rfl, s1, r1⟩ := ba.list
      obtain ⟨q, ws, rfl, s2, r2⟩ := bb.list
      refine .inr (.inr (.inr ⟨p, q, us, ws, rfl, rfl, s1, s2, by rw [r1.length, r2.length]; exact hl, fun o ho => ?_⟩))
      exact k _ _ (same_new ho) (.inr ⟨o, _, _, rfl, rfl, ho, upd_same, (r1.append r2).stb ⟨fun b ys q => same_new ho _ _ q, fun b o w q => same_new ho _ _ q⟩⟩)
    · cases e
  · cases e
theorem opo_cat {K : KW} : OpO K (rCatL K.K) gCat := by
  intro x y H a b d Q z ba bb e k
  unfold gCat at e
  split at e
  · rename_i xs ys
    split at e
    · rename_i hl
      cases e
      obtain ⟨p, us, rfl, s1, r1⟩ := ba.list
      obtain ⟨q, ws, rfl, s2, r2⟩ := bb.list
      refine ⟨p, q, us, ws, rfl, rfl, s1, s2, by rw [r1.length, r2.length]; exact hl, fun o ho => ?_⟩
      exact k o _ _ (same_new ho) ho upd_same ((r1.append r2).stb ⟨fun b ys q => same_new ho _ _ q, fun b o w q => same_new ho _ _ q⟩)
    · cases e
  · cases e
theorem opd_sub {K : KW} : OpD K (rI0 fun i j => .int (i - j)) gSub := opd_i0 fun a b d e => by
  unfold gSub at e
  split at e
  · cases e; exact ⟨_, _, rfl, rfl, fun _ => .int _⟩
  · cases e
theorem opd_mul {K : KW} : OpD K (rI CMul fun i j => .int (i * j)) gMul := opd_i fun a b d e => by
  unfold gMul at e
  split at e
  · split at e
    · rename_i h; cases e; exact ⟨_, _, rfl, rfl, h, fun _ => .int _⟩
    · cases e
  · cases e
theorem opd_div {K : KW} : OpD K (rI CDiv fun i j => .int (i / j)) gDiv := opd_i fun a b d e => by
  unfold gDiv at e
  split at e
  · split at e
    · rename_i h; cases e; exact ⟨_, _, rfl, rfl, h, fun _ => .int _⟩
    · cases e
  · cases e
theorem opd_mod {K : KW} : OpD K (rI (fun _ j => 0 < j) fun i j => .int (i % j)) gMod := opd_i fun a b d e => by
  unfold gMod at e
  split at e
  · split at e
    · rename_i h; cases e; exact ⟨_, _, rfl, rfl, h, fun _ => .int _⟩
    · cases e
  · cases e
theorem opd_shl {K : KW} : OpD K (rI CPow fun i j => .int (i * 2 ^ j.toNat)) gShl := opd_i fun a b d e => by
  unfold gShl at e
  split at e
  · split at e
    · rename_i h; cases e; exact ⟨_, _, rfl, rfl, h, fun _ => .int _⟩
    · cases e
  · cases e
theorem opd_shr {K : KW} : OpD K (rI (fun _ j => 0 ≤ j) fun i j => .int (i / 2 ^ j.toNat)) gShr := opd_i fun a b d e => by
  unfold gShr at e
  split at e
  · split at e
    · rename_i h; cases e; exact ⟨_, _, rfl, rfl, h, fun _ => .int _⟩
    · cases e
  · cases e
theorem opd_band {K : KW} : OpD K (rI0 fun i j => .int (Builtin.bitAnd i j)) gBitAnd := opd_i0 fun a b d e => by
  unfold gBitAnd at e
  split at e
  · cases e; exact ⟨_, _, rfl, rfl, fun _ => .int _⟩
  · cases e
theorem opd_eq {K : KW} : OpD K (rEqD K.K) gEq := by
  intro x y H a b d Q z ba bb e k
  unfold gEq at e
  split at e
  · rename_i h; cases e; exact ⟨a, b, ba.dp, bb.dp, h.1, h.2, k _ H (Same.refl _) (.inl (.bl _))⟩
  · cases e
theorem opd_ne {K : KW} : OpD K (rNeD K.K) gNe := by
  intro x y H a b d Q z ba bb e k
  unfold gNe at e
  split at e
  · rename_i h; cases e; exact ⟨a, b, ba.dp, bb.dp, h.1, h.2, k _ H (Same.refl _) (.inl (.bl _))⟩
  · cases e
abbrev rCmpA (f : Int → Int → V) (g : Str → Str → Bool) : R2 := fun x y H Q => rI0 f x y H Q ∨ (∃ i j, x = .str i ∧ y = .str j ∧ Q (.bl (g i j)) H)
theorem op_ltA : OpR X (compareOp .Lt) (rCmpA (fun i j => .bl (decide (i < j))) fun i j => decide (i.cps.toList < j.cps.toList)) := op_lt.or op_lt_str
theorem op_leA : OpR X (compareOp .LtE) (rCmpA (fun i j => .bl (decide (i ≤ j))) fun i j => !decide (j.cps.toList < i.cps.toList)) := op_le.or op_le_str
theorem op_gtA : OpR X (compareOp .Gt) (rCmpA (fun i j => .bl (decide (j < i))) fun i j => decide (j.cps.toList < i.cps.toList)) := op_gt.or op_gt_str
theorem op_geA : OpR X (compareOp .GtE) (rCmpA (fun i j => .bl (decide (j ≤ i))) fun i j => !decide (i.cps.toList < j.cps.toList)) := op_ge.or op_ge_str
theorem opd_cmp {K : KW} {p : Int → Int → Bool} {q : Str → Str → Bool} {g : D2} (hg : ∀ a b d, g a b = some d → (∃ i j, a = .int i ∧ b = .int j ∧ d = .bool (p i j)) ∨ ∃ i j, a = .str i ∧ b = .str j ∧ d = .bool (q i j)) : OpD K (rCmpA (fun i j => .bl (p i j)) q) g := by
  intro x y H a b d Q z ba bb e k
  rcases hg a b d e with ⟨i, j, rfl, rfl, rfl⟩ | ⟨i, j, rfl, rfl, rfl⟩
  · exact .inl ⟨i, j, ba.int, bb.int, k _ H (Same.refl _) (.inl (.bl _))⟩
  · exact .inr ⟨i, j, ba.str, bb.str, k _ H (Same.refl _) (.inl (.bl _))⟩
theorem opd_lt {K : KW} : OpD K (rCmpA (fun i j => .bl (decide (i < j))) fun i j => decide (i.cps.toList < j.cps.toList)) gLt := opd_cmp (p := fun i j => decide (i < j)) fun a b d e => by
  unfold gLt at e
  split at e
  · cases e; exact .inl ⟨_, _, rfl, rfl, rfl⟩
  · cases e; exact .inr ⟨_, _, rfl, rfl, rfl⟩
  · cases e
theorem opd_le {K : KW} : OpD K (rCmpA (fun i j => .bl (decide (i ≤ j))) fun i j => !decide (j.cps.toList < i.cps.toList)) gLe := opd_cmp (p := fun i j => decide (i ≤ j)) fun a b d e => by
  unfold gLe at e
  split at e
  · cases e; exact .inl ⟨_, _, rfl, rfl, rfl⟩
  · cases e; exact .inr ⟨_, _, rfl, rfl, rfl⟩
  · cases e
theorem opd_gt {K : KW} : OpD K (rCmpA (fun i j => .bl (decide (j < i))) fun i j => decide (j.cps.toList < i.cps.toList)) gGt := opd_cmp (p := fun i j => decide (j < i)) fun a b d e => by
  unfold gGt at e
  split at e
  · cases e; exact .inl ⟨_, _, rfl, rfl, rfl⟩
  · cases e; exact .inr ⟨_, _, rfl, rfl, rfl⟩
  · cases e
theorem opd_ge {K : KW} : OpD K (rCmpA (fun i j => .bl (decide (j ≤ i))) fun i j => !decide (i.cps.toList < j.cps.toList)) gGe := opd_cmp (p := fun i j => decide (j ≤ i)) fun a b d e => by
  unfold gGe at e
  split at e
  · cases e; exact .inl ⟨_, _, rfl, rfl, rfl⟩
  · cases e; exact .inr ⟨_, _, rfl, rfl, rfl⟩
  · cases e
abbrev rInS (n : Bool) : R2 := fun x y H Q => ∃ (c : Nat) (z : Str), x = .str ⟨#[c]⟩ ∧ y = .str z ∧ Q (.bl (if n then !decide (c ∈ z.cps.toList) else decide (c ∈ z.cps.toList))) H
theorem sign_of {x z : Str} {b : Bool} (h : inSign x z = some b) : ∃ c, x = ⟨#[c]⟩ ∧ b = decide (c ∈ z.cps.toList) := by
  unfold inSign at h
  obtain ⟨cps⟩ := x
  split at h
  · rename_i c e
    cases h
    refine ⟨c, ?_, rfl⟩
    have : cps = #[c] := by
      have e' : cps.toList = [c] := e
      rw [← Array.toArray_toList (xs := cps), e']
    rw [this]
  · cases h
theorem op_inA (hu : X.A.units + 65 < cLine) : OpR X (compareOp .In) (fun x y H Q => rInD X.K x y H Q ∨ (rInT X.K false x y H Q ∨ rInS false x y H Q)) := (op_inD hu).or ((op_inT hu).or op_in_sign)
theorem op_notInA (hu : X.A.units + 65 < cLine) : OpR X (compareOp .NotIn) (fun x y H Q => rNotInD X.K x y H Q ∨ (rInT X.K true x y H Q ∨ rInS true x y H Q)) := (op_notInD hu).or ((op_notInT hu).or op_notIn_sign)
theorem opd_in {K : KW} : OpD K (fun x y H Q => rInD K.K x y H Q ∨ (rInT K.K false x y H Q ∨ rInS false x y H Q)) gIn := by
  intro x y H a b d Q z ba bb e k
  unfold gIn at e
  split at e
  · split at e
    · rename_i h
      cases e
      exact .inl ⟨_, _, ba.dp, bb.dp, h.1, h.2, k _ H (Same.refl _) (.inl (.bl _))⟩
    · cases e
  · split at e
    · rename_i h
      cases e
      exact .inr (.inl ⟨_, _, ba.dp, bb.dp, h.1, h.2, k _ H (Same.refl _) (.inl (.bl _))⟩)
    · cases e
  · obtain ⟨k', e1, rfl⟩ := Option.map_eq_some_iff.mp e
    obtain ⟨c, rfl, rfl⟩ := sign_of e1
    exact .inr (.inr ⟨c, _, ba.str, bb.str, k _ H (Same.refl _) (.inl (.bl _))⟩)
  · cases e
theorem opd_notIn {K : KW} : OpD K (fun x y H Q => rNotInD K.K x y H Q ∨ (rInT K.K true x y H Q ∨ rInS true x y H Q)) gNotIn := by
  intro x y H a b d Q z ba bb e k
  unfold gNotIn at e
  split at e
  · split at e
    · rename_i h
      cases e
      exact .inl ⟨_, _, ba.dp, bb.dp, h.1, h.2, k _ H (Same.refl _) (.inl (.bl _))⟩
    · cases e
  · split at e
    · rename_i h
      cases e
      exact .inr (.inl ⟨_, _, ba.dp, bb.dp, h.1, h.2, k _ H (Same.refl _) (.inl (.bl _))⟩)
    · cases e
  · obtain ⟨k', e1, rfl⟩ := Option.map_eq_some_iff.mp e
    obtain ⟨c, rfl, rfl⟩ := sign_of e1
    exact .inr (.inr ⟨c, _, ba.str, bb.str, k _ H (Same.refl _) (.inl (.bl _))⟩)
  · cases e
theorem atI_rp {K : KW} {H : Hp} {xs : List V} {ds : List PyData} {i : Int} {d : PyData} (r : RpA K H xs ds) (e : atI ds i = some d) : ∃ v, atI xs i = some v ∧ Rp K H v d := by
  unfold atI at e ⊢
  obtain ⟨j, e1, e2⟩ := Option.bind_eq_some_iff.mp e
  obtain ⟨v, e3, rp⟩ := r.get e2
  refine ⟨v, ?_, rp⟩
  rw [r.length, e1]
  exact e3
theorem opd_ix {K : KW} : OpD K (rIx K.K) gIx := by
  intro x y H a b d Q z ba bb e k
  unfold gIx at e
  split at e
  · obtain ⟨p, xs, rfl, s, r⟩ := ba.list
    obtain ⟨v, e1, rp⟩ := atI_rp r e
    exact .inl ⟨p, xs, _, v, rfl, bb.int, s, e1, k v H (Same.refl _) (.inl rp)⟩
  · obtain ⟨p, xs, rfl, s, r⟩ := ba.tuple
    obtain ⟨v, e1, rp⟩ := atI_rp r e
    exact .inr (.inl ⟨p, xs, _, v, rfl, bb.int, s, e1, k v H (Same.refl _) (.inl rp)⟩)
  · split at e
    · rename_i hl
      obtain ⟨c, e1, rfl⟩ := Option.map_eq_some_iff.mp e
      exact .inr (.inr ⟨_, _, c, ba.str, bb.int, hl, e1, k _ H (Same.refl _) (.inl (.str _))⟩)
    · cases e
  · cases e
theorem und_neg {K : KW} : UnD K (rU fun i => .int (-i)) gNeg := by
  intro x H a d Q z ba e k
  unfold gNeg at e
  split at e
  · cases e; exact ⟨_, ba.int, k _ H (Same.refl _) (.inl (.int _))⟩
  · cases e
/-! slices -/
abbrev PM := Rho → Option (Option Int × Rho)
def pNo : PM := fun ρ => some (none, ρ)
def pSm (m : EM) : PM := fun ρ => (m ρ).bind fun p => match rd p.2 p.1 with
  | some (.int i) => some (some i, p.2)
  | _ => none
def tP (K : KW) (m : PM) : TO := fun σ H Q => ∃ ρ o ρ', Hold K ρ σ H ∧ m ρ = some (o, ρ') ∧ ∀ H', Stp K ρ σ H ρ' σ H' → Q o H'
theorem pom {e : Option Expr} {t t' : TO} (h : PO X e t) (w : ∀ σ H Q, t' σ H Q → t σ H Q) : PO X e t' := ⟨fun pins s σ H Q I q => h.run pins s σ H Q I (w σ H Q q)⟩
theorem pe_no : PO X none (tP X.kw pNo) := by
  refine pom po_none fun σ H Q ⟨ρ, o, ρ', hh, em, k⟩ => ?_
  cases em
  exact k H (.refl hh)
theorem pe_sm {e : Expr} {m : EM} (h : RE X e m) : PO X (some e) (tP X.kw (pSm m)) := by
  refine pom (po_some h) fun σ H Q ⟨ρ, o, ρ', hh, em, k⟩ => ?_
  obtain ⟨⟨r, ρ1⟩, e1, em⟩ := Option.bind_eq_some_iff.mp em
  dsimp only at em
  split at em
  · rename_i i q
    cases em
    exact ⟨ρ, r, _, hh, e1, fun v H1 s1 ok => ⟨i, (rd_bq s1.hold ok q).int, k H1 s1⟩⟩
  · cases em
def dSl (m : EM) (lo hi : PM) : EM := fun ρ => (m ρ).bind fun p => (lo p.2).bind fun q => (hi q.2).bind fun r => (rd r.2 p.1).bind fun a => (gSl a q.1 r.1).map fun d => (.dat d, r.2)
def oSl (m : EM) (lo hi : PM) : OM := fun ρ => (m ρ).bind fun p => (lo p.2).bind fun q => (hi q.2).bind fun r => (rd r.2 p.1).bind fun a => (gSlL a q.1 r.1).map fun d => (.lst d, r.2)
theorem sIx_len {n d : Nat} (o : Option Int) : True := trivial
theorem cut_rp {K : KW} {H : Hp} {xs : List V} {ds : List PyData} (r : RpA K H xs ds) (lo hi : Option Int) : RpA K H (cutV xs lo hi) (cutL ds lo hi) := by
  unfold cutV cutL
  rw [r.length]
  exact (r.drop _).take _
theorem re_slice {e : Expr} {lo hi : Option Expr} {m : EM} {ml mh : PM} {p2 pos : Pos} (he : RE X e m) (hl : PO X lo (tP X.kw ml)) (hh : PO X hi (tP X.kw mh)) : RE X (.Subscript e (.Slice lo hi none p2) pos) (dSl m ml mh) := by
  refine pem (pe_gh (pe_slice (sl_list.or (sl_tupA.or sl_str)) he hl hh)) fun σ H Q ⟨ρ, r', ρ', h0, em, k⟩ => ?_
  obtain ⟨⟨ra, ρ1⟩, e1, em⟩ := Option.bind_eq_some_iff.mp em
  obtain ⟨⟨o1, ρ2⟩, e2, em⟩ := Option.bind_eq_some_iff.mp em
  obtain ⟨⟨o2, ρ3⟩, e3, em⟩ := Option.bind_eq_some_iff.mp em
  obtain ⟨da, e4, em⟩ := Option.bind_eq_some_iff.mp em
  obtain ⟨d, e5, em⟩ := Option.map_eq_some_iff.mp em
  cases em
  refine ⟨ρ, ra, ρ1, h0, e1, fun x H1 s1 ok1 => ⟨ρ1, o1, ρ2, s1.hold, e2, fun H2 s2 => ⟨ρ2, o2, _, s2.hold, e3, fun H3 s3 => ?_⟩⟩⟩
  have st := s1.trans (s2.trans s3)
  have bq := rd_bq s3.hold (ok1.stb (s2.trans s3).stb) e4
  have fin : ∀ {v : V} {H' : Hp}, Same H3 H' → Res X.kw H3 H' v d → GQ X.kw H' (Q v) := fun g rs => res_run st g rs fun H4 s4 rp => k _ H4 s4 rp
  unfold gSl at e5
  split at e5
  · cases e5
    obtain ⟨p, xs, rfl, s, r⟩ := bq.list
    exact .inl ⟨p, xs, rfl, s, fun o ho => fin (same_new ho) (.inr ⟨o, _, _, rfl, rfl, ho, upd_same, (cut_rp r o1 o2).stb ⟨fun b ys q => same_new ho _ _ q, fun b o w q => same_new ho _ _ q⟩⟩)⟩
  · cases e5
    obtain ⟨p, xs, rfl, s, r⟩ := bq.tuple
    refine .inr (.inl ⟨p, xs, rfl, s, fun hw => fin (Same.refl _) (.inl (.tup s ?_)), fun _ o ho => fin (same_new ho) (.inl (.tup (.inl (.inl upd_same)) ((cut_rp r o1 o2).stb ⟨fun b ys q => same_new ho _ _ q, fun b o w q => same_new ho _ _ q⟩)))⟩)
    have : cutV xs o1 o2 = xs := by
      unfold cutV
      rw [hw.1, hw.2]
      simp
    have q := cut_rp r o1 o2
    rw [this] at q
    exact q
  · split at e5
    · rename_i hl
      cases e5
      exact .inr (.inr ⟨_, bq.str, hl, fin (Same.refl _) (.inl (.str _))⟩)
    · cases e5
  · cases e5
theorem oe_slice {e : Expr} {lo hi : Option Expr} {m : EM} {ml mh : PM} {p2 pos : Pos} (he : RE X e m) (hl : PO X lo (tP X.kw ml)) (hh : PO X hi (tP X.kw mh)) : OE X (.Subscript e (.Slice lo hi none p2) pos) (oSl m ml mh) := by
  refine pem (pe_gh (pe_slice sl_list he hl hh)) fun σ H Q ⟨ρ, r', ρ', h0, em, k⟩ => ?_
  obtain ⟨⟨ra, ρ1⟩, e1, em⟩ := Option.bind_eq_some_iff.mp em
  obtain ⟨⟨o1, ρ2⟩, e2, em⟩ := Option.bind_eq_some_iff.mp em
  obtain ⟨⟨o2, ρ3⟩, e3, em⟩ := Option.bind_eq_some_iff.mp em
  obtain ⟨da, e4, em⟩ := Option.bind_eq_some_iff.mp em
  obtain ⟨d, e5, em⟩ := Option.map_eq_some_iff.mp em
  cases em
  refine ⟨ρ, ra, ρ1, h0, e1, fun x H1 s1 ok1 => ⟨ρ1, o1, ρ2, s1.hold, e2, fun H2 s2 => ⟨ρ2, o2, _, s2.hold, e3, fun H3 s3 => ?_⟩⟩⟩
  have st := s1.trans (s2.trans s3)
  have bq := rd_bq s3.hold (ok1.stb (s2.trans s3).stb) e4
  unfold gSlL at e5
  split at e5
  · cases e5
    obtain ⟨p, xs, rfl, s, r⟩ := bq.list
    refine ⟨p, xs, rfl, s, fun o ho z => .inl ?_⟩
    obtain ⟨s4, n4⟩ := newo_run (o := .lst (cutL _ o1 o2)) st (same_new ho) z ⟨o, _, rfl, upd_same, (cut_rp r o1 o2).stb ⟨fun b ys q => same_new ho _ _ q, fun b o w q => same_new ho _ _ q⟩⟩ (fun b hb => by cases hb; exact ho)
    exact k _ _ s4 n4
  · cases e5
/-! built-ins -/
theorem pair1 {K : KW} {H : Hp} {xs : List V} {a : PyData} (h : Paired (Bq K H) xs [a]) : ∃ v, xs = [v] ∧ Bq K H v a := by
  cases h with | cons r t => cases t; exact ⟨_, rfl, r⟩
theorem pair2 {K : KW} {H : Hp} {xs : List V} {a b : PyData} (h : Paired (Bq K H) xs [a, b]) : ∃ v w, xs = [v, w] ∧ Bq K H v a ∧ Bq K H w b := by
  cases h with | cons r t => cases t with | cons r2 t2 => cases t2; exact ⟨_, _, rfl, r, r2⟩
abbrev rLenA (K : PySem.W.Frag) : List V → Hp → VK → Prop := fun xs H Q => (∃ p ys, xs = [.ref p] ∧ (SqL K H p ys ∨ SqT K H p ys) ∧ Q (.int ys.length) H) ∨ (∃ z, xs = [.str z] ∧ z.length ≤ sizeLine ∧ Q (.int z.length) H)
theorem call_lenA : CallR X (.builtin "len") (rLenA X.K) := call_len_seq.or call_len_str
theorem cd_len {K : KW} : CallD K (rLenA K.K) gLen := by
  intro xs H ds d Q z bs e k
  unfold gLen at e
  split at e
  · cases e
    obtain ⟨v, rfl, bq⟩ := pair1 bs
    obtain ⟨p, ys, rfl, s, r⟩ := bq.list
    exact .inl ⟨p, ys, rfl, .inl s, by rw [r.length]; exact k _ H (Same.refl _) (.inl (.int _))⟩
  · cases e
    obtain ⟨v, rfl, bq⟩ := pair1 bs
    obtain ⟨p, ys, rfl, s, r⟩ := bq.tuple
    exact .inl ⟨p, ys, rfl, .inr s, by rw [r.length]; exact k _ H (Same.refl _) (.inl (.int _))⟩
  · split at e
    · rename_i hl
      cases e
      obtain ⟨v, rfl, bq⟩ := pair1 bs
      exact .inr ⟨_, by rw [bq.str], hl, k _ H (Same.refl _) (.inl (.int _))⟩
    · cases e
  · cases e
theorem cd_abs {K : KW} : CallD K (fun xs H Q => ∃ i, xs = [.int i] ∧ Q (.int (if i < 0 then -i else i)) H) gAbs := by
  intro xs H ds d Q z bs e k
  unfold gAbs at e
  split at e
  · cases e
    obtain ⟨v, rfl, bq⟩ := pair1 bs
    exact ⟨_, by rw [bq.int], k _ H (Same.refl _) (.inl (.int _))⟩
  · cases e
theorem cd_int1 {K : KW} : CallD K (fun xs H Q => (∃ i, xs = [.int i] ∧ Q (.int i) H) ∨ ∃ k, xs = [.bl k] ∧ Q (.int (if k then 1 else 0)) H) gInt1 := by
  intro xs H ds d Q z bs e k
  unfold gInt1 at e
  split at e
  · cases e
    obtain ⟨v, rfl, bq⟩ := pair1 bs
    exact .inl ⟨_, by rw [bq.int], k _ H (Same.refl _) (.inl (.int _))⟩
  · cases e
    obtain ⟨v, rfl, bq⟩ := pair1 bs
    exact .inr ⟨_, by rw [bq.bool], k _ H (Same.refl _) (.inl (.int _))⟩
  · cases e
theorem ints_rp {K : KW} {H : Hp} : ∀ {xs : List V} {ds : List PyData} {ns : List Int}, RpA K H xs ds → intsOf ds = some ns → xs = ns.map V.int
  | _, [], _, h, e => by cases h; cases e; rfl
  | _, .int i :: ds, _, h, e => by
    cases h with
    | cons h1 h2 =>
      obtain ⟨ns, e1, rfl⟩ := Option.map_eq_some_iff.mp e
      cases h1
      rw [ints_rp h2 e1]; rfl
  | _, .none :: ds, _, h, e => by cases e
  | _, .bool _ :: ds, _, h, e => by cases e
  | _, .str _ :: ds, _, h, e => by cases e
  | _, .list _ :: ds, _, h, e => by cases e
  | _, .tuple _ :: ds, _, h, e => by cases e
  | _, .dict _ :: ds, _, h, e => by cases e
theorem bools_rp {K : KW} {H : Hp} : ∀ {xs : List V} {ds : List PyData} {ns : List Bool}, RpA K H xs ds → boolsOf ds = some ns → xs = ns.map V.bl
  | _, [], _, h, e => by cases h; cases e; rfl
  | _, .bool i :: ds, _, h, e => by
    cases h with
    | cons h1 h2 =>
      obtain ⟨ns, e1, rfl⟩ := Option.map_eq_some_iff.mp e
      cases h1
      rw [bools_rp h2 e1]; rfl
  | _, .none :: ds, _, h, e => by cases e
  | _, .int _ :: ds, _, h, e => by cases e
  | _, .str _ :: ds, _, h, e => by cases e
  | _, .list _ :: ds, _, h, e => by cases e
  | _, .tuple _ :: ds, _, h, e => by cases e
  | _, .dict _ :: ds, _, h, e => by cases e
theorem strs_rp {K : KW} {H : Hp} : ∀ {xs : List V} {ds : List PyData} {ns : List Str}, RpA K H xs ds → strsOf ds = some ns → xs = ns.map V.str
  | _, [], _, h, e => by cases h; cases e; rfl
  | _, .str i :: ds, _, h, e => by
    cases h with
    | cons h1 h2 =>
      obtain ⟨ns, e1, rfl⟩ := Option.map_eq_some_iff.mp e
      cases h1
      rw [strs_rp h2 e1]; rfl
  | _, .none :: ds, _, h, e => by cases e
  | _, .int _ :: ds, _, h, e => by cases e
  | _, .bool _ :: ds, _, h, e => by cases e
  | _, .list _ :: ds, _, h, e => by cases e
  | _, .tuple _ :: ds, _, h, e => by cases e
  | _, .dict _ :: ds, _, h, e => by cases e
theorem foldl_max_spec : ∀ (xs : List Int) (x : Int), xs.foldl max x ∈ x :: xs ∧ ∀ y ∈ x :: xs, y ≤ xs.foldl max x
  | [], x => by simp
  | z :: xs, x => by
    obtain ⟨h1, h2⟩ := foldl_max_spec xs (max x z)
    rw [List.foldl_cons]
    refine ⟨?_, fun y hy => ?_⟩
    · rcases List.mem_cons.mp h1 with e | h1
      · rw [e]
        rcases Int.le_total x z with q | q
        · rw [Int.max_eq_right q]; simp
        · rw [Int.max_eq_left q]; simp
      · simp [h1]
    · have hm := h2 (max x z) (by simp)
      rcases List.mem_cons.mp hy with rfl | hy
      · omega
      rcases List.mem_cons.mp hy with rfl | hy
      · omega
      · exact h2 y (by simp [hy])
theorem foldl_min_spec : ∀ (xs : List Int) (x : Int), xs.foldl min x ∈ x :: xs ∧ ∀ y ∈ x :: xs, xs.foldl min x ≤ y
  | [], x => by simp
  | z :: xs, x => by
    obtain ⟨h1, h2⟩ := foldl_min_spec xs (min x z)
    rw [List.foldl_cons]
    refine ⟨?_, fun y hy => ?_⟩
    · rcases List.mem_cons.mp h1 with e | h1
      · rw [e]
        rcases Int.le_total x z with q | q
        · rw [Int.min_eq_left q]; simp
        · rw [Int.min_eq_right q]; simp
      · simp [h1]
    · have hm := h2 (min x z) (by simp)
      rcases List.mem_cons.mp hy with rfl | hy
      · omega
      rcases List.mem_cons.mp hy with rfl | hy
      · omega
      · exact h2 y (by simp [hy])
abbrev rMaxA (K : PySem.W.Frag) : List V → Hp → VK → Prop := fun xs H Q => rMax K xs H Q ∨ (∃ i j, xs = [.int i, .int j] ∧ Q (.int (if j > i then j else i)) H)
abbrev rMinA (K : PySem.W.Frag) : List V → Hp → VK → Prop := fun xs H Q => rMin K xs H Q ∨ (∃ i j, xs = [.int i, .int j] ∧ Q (.int (if j < i then j else i)) H)
theorem call_maxA (hc : X.calm = true) : CallR X (.builtin "max") (rMaxA X.K) := (cr_max hc).or (call_max2 hc)
theorem call_minA (hc : X.calm = true) : CallR X (.builtin "min") (rMinA X.K) := (cr_min hc).or (call_min2 hc)
theorem cd_max {K : KW} : CallD K (rMaxA K.K) gMax := by
  intro xs H ds d Q z bs e k
  unfold gMax at e
  split at e
  · obtain ⟨v, rfl, bq⟩ := pair1 bs
    obtain ⟨ns, e1, e2⟩ := Option.bind_eq_some_iff.mp e
    obtain ⟨m, e3, rfl⟩ := Option.map_eq_some_iff.mp e2
    obtain ⟨p, ys, rfl, s, r⟩ := bq.list
    rw [ints_rp r e1] at s
    cases ns with
    | nil => cases e3
    | cons n ns =>
      cases e3
      obtain ⟨m1, m2⟩ := foldl_max_spec ns n
      refine .inl ⟨p, n :: ns, rfl, s, by simp, fun m hm hy => ?_⟩
      have : m = ns.foldl max n := by
        have a := m2 m hm
        have b := hy _ m1
        omega
      rw [this]
      exact k _ H (Same.refl _) (.inl (.int _))
  · cases e
    obtain ⟨v, w, rfl, b1, b2⟩ := pair2 bs
    exact .inr ⟨_, _, by rw [b1.int, b2.int], k _ H (Same.refl _) (.inl (.int _))⟩
  · cases e
theorem cd_min {K : KW} : CallD K (rMinA K.K) gMin := by
  intro xs H ds d Q z bs e k
  unfold gMin at e
  split at e
  · obtain ⟨v, rfl, bq⟩ := pair1 bs
    obtain ⟨ns, e1, e2⟩ := Option.bind_eq_some_iff.mp e
    obtain ⟨m, e3, rfl⟩ := Option.map_eq_some_iff.mp e2
    obtain ⟨p, ys, rfl, s, r⟩ := bq.list
    rw [ints_rp r e1] at s
    cases ns with
    | nil => cases e3
    | cons n ns =>
      cases e3
      obtain ⟨m1, m2⟩ := foldl_min_spec ns n
      refine .inl ⟨p, n :: ns, rfl, s, by simp, fun m hm hy => ?_⟩
      have : m = ns.foldl min n := by
        have a := m2 m hm
        have b := hy _ m1
        omega
      rw [this]
      exact k _ H (Same.refl _) (.inl (.int _))
  · cases e
    obtain ⟨v, w, rfl, b1, b2⟩ := pair2 bs
    exact .inr ⟨_, _, by rw [b1.int, b2.int], k _ H (Same.refl _) (.inl (.int _))⟩
  · cases e
theorem cd_sum {K : KW} : CallD K (rSum K.K) gSum := by
  intro xs H ds d Q z bs e k
  unfold gSum at e
  split at e
  · obtain ⟨v, rfl, bq⟩ := pair1 bs
    obtain ⟨ns, e1, rfl⟩ := Option.map_eq_some_iff.mp e
    obtain ⟨p, ys, rfl, s, r⟩ := bq.list
    rw [ints_rp r e1] at s
    exact ⟨p, ns, rfl, s, k _ H (Same.refl _) (.inl (.int _))⟩
  · cases e
theorem cd_any {K : KW} : CallD K (rAny K.K) gAny := by
  intro xs H ds d Q z bs e k
  unfold gAny at e
  split at e
  · obtain ⟨v, rfl, bq⟩ := pair1 bs
    obtain ⟨ns, e1, rfl⟩ := Option.map_eq_some_iff.mp e
    obtain ⟨p, ys, rfl, s, r⟩ := bq.list
    rw [bools_rp r e1] at s
    exact ⟨p, ns, rfl, s, k _ H (Same.refl _) (.inl (.bl _))⟩
  · cases e
theorem cd_all {K : KW} : CallD K (rAll K.K) gAll2 := by
  intro xs H ds d Q z bs e k
  unfold gAll2 at e
  split at e
  · obtain ⟨v, rfl, bq⟩ := pair1 bs
    obtain ⟨ns, e1, rfl⟩ := Option.map_eq_some_iff.mp e
    obtain ⟨p, ys, rfl, s, r⟩ := bq.list
    rw [bools_rp r e1] at s
    exact ⟨p, ns, rfl, s, k _ H (Same.refl _) (.inl (.bl _))⟩
  · cases e
abbrev rTupleA (K : PySem.W.Frag) : List V → Hp → VK → Prop := fun xs H Q => ∃ p ys, xs = [.ref p] ∧ ((SqL K H p ys ∧ ∀ l, H l = none → Q (.ref l) (upd H l (.tup ys))) ∨ (SqT K H p ys ∧ Q (.ref p) H))
theorem cd_tuple {K : KW} : CallD K (rTupleA K.K) gTuple := by
  intro xs H ds d Q z bs e k
  unfold gTuple at e
  split at e
  · cases e
    obtain ⟨v, rfl, bq⟩ := pair1 bs
    obtain ⟨p, ys, rfl, s, r⟩ := bq.list
    exact ⟨p, ys, rfl, .inl ⟨s, fun o ho => k _ _ (same_new ho) (.inl (.tup (.inl (.inl upd_same)) (r.stb ⟨fun b ys q => same_new ho _ _ q, fun b o w q => same_new ho _ _ q⟩)))⟩⟩
  · cases e
    obtain ⟨v, rfl, bq⟩ := pair1 bs
    obtain ⟨p, ys, rfl, s, r⟩ := bq.tuple
    exact ⟨p, ys, rfl, .inr ⟨s, k _ H (Same.refl _) (.inl (.tup s r))⟩⟩
  · cases e
abbrev rListA (K : PySem.W.Frag) : List V → Hp → VK → Prop := fun xs H Q => ∃ p ys, xs = [.ref p] ∧ (SqL K H p ys ∨ SqT K H p ys) ∧ ∀ l, H l = none → Q (.ref l) (upd H l (.lst ys))
theorem co_list {K : KW} : CallO K (rListA K.K) gList := by
  intro xs H ds es Q z bs e k
  unfold gList at e
  split at e
  · cases e
    obtain ⟨v, rfl, bq⟩ := pair1 bs
    obtain ⟨p, ys, rfl, s, r⟩ := bq.list
    exact ⟨p, ys, rfl, .inl s, fun o ho => k _ _ _ (same_new ho) ho upd_same (r.stb ⟨fun b ys q => same_new ho _ _ q, fun b o w q => same_new ho _ _ q⟩)⟩
  · cases e
    obtain ⟨v, rfl, bq⟩ := pair1 bs
    obtain ⟨p, ys, rfl, s, r⟩ := bq.tuple
    exact ⟨p, ys, rfl, .inr s, fun o ho => k _ _ _ (same_new ho) ho upd_same (r.stb ⟨fun b ys q => same_new ho _ _ q, fun b o w q => same_new ho _ _ q⟩)⟩
  · cases e
theorem cd_strI {K : KW} : CallD K (fun xs H Q => ∃ i, xs = [.int i] ∧ i.natAbs.log2 < 1920 ∧ Q (.str (toString i)) H) gStrI := by
  intro xs H ds d Q z bs e k
  unfold gStrI at e
  split at e
  · split at e
    · rename_i hl
      cases e
      obtain ⟨v, rfl, bq⟩ := pair1 bs
      exact ⟨_, by rw [bq.int], hl, k _ H (Same.refl _) (.inl (.str _))⟩
    · cases e
  · cases e
end
end Vx
/-! Vx8: lists that are ours are changed; names stored by an operator; a def of the text by its name. -/
namespace Vx
open PySem PySem.Spec L2

/-- a slot's list takes other items -/
def updL (ρ : Rho) (i : Nat) (ds : List PyData) : Rho := match ρ[i]? with
  | some (.io _) => ρ.set i (.io (.lst ds))
  | _ => ρ.set i (.own (.lst ds))
def lstAt (ρ : Rho) (i : Nat) : Option (List PyData) := match ρ[i]? with
  | some (.own (.lst ds)) => some ds
  | some (.io (.lst ds)) => some ds
  | _ => none
theorem lstAt_some {ρ : Rho} {i : Nat} {ds : List PyData} (h : lstAt ρ i = some ds) : ρ[i]? = some (.own (.lst ds)) ∨ ρ[i]? = some (.io (.lst ds)) := by
  unfold lstAt at h
  split at h
  · rename_i q; cases h; exact .inl q
  · rename_i q; cases h; exact .inr q
  · cases h
theorem Hold.lst_at {K : KW} {ρ : Rho} {σ : L2.St} {H : Hp} {i : Nat} {ds : List PyData} (h : Hold K ρ σ H) (e : lstAt ρ i = some ds) : ∃ a xs, σ[i]? = some (some (.ref a)) ∧ H a = some (.lst xs) ∧ RpA K H xs ds := by
  rcases lstAt_some e with q | q
  · have hi : i < σ.length := by rw [h.len]; exact (List.getElem?_eq_some_iff.mp q).1
    obtain ⟨v, ev, a, xs, rfl, ha, r⟩ := h.ok i _ _ q (List.getElem?_eq_getElem hi)
    exact ⟨a, xs, by rw [List.getElem?_eq_getElem hi, ev], ha, r⟩
  · have hi : i < σ.length := by rw [h.len]; exact (List.getElem?_eq_some_iff.mp q).1
    obtain ⟨v, ev, a, xs, rfl, ha, r⟩ := h.ok i _ _ q (List.getElem?_eq_getElem hi)
    exact ⟨a, xs, by rw [List.getElem?_eq_getElem hi, ev], ha, r⟩
theorem szs_upd {K : KW} {H : Hp} {a : Addr} {ys : List V} (z : Szs K H) (h : ys.length ≤ sizeLine) : Szs K (upd H a (.lst ys)) := by
  refine ⟨fun b xs q => ?_, fun b xs q => ?_⟩
  · by_cases hb : b = a
    · subst hb
      rcases q with (q | ⟨o, q⟩) | q
      · rw [upd_same] at q; cases q; exact h
      · rw [upd_same] at q; cases q
      · exact z.lst b xs (.inr q)
    · rcases q with (q | ⟨o, q⟩) | q
      · rw [upd_ne hb] at q; exact z.lst b xs (.inl (.inl q))
      · rw [upd_ne hb] at q; exact z.lst b xs (.inl (.inr ⟨o, q⟩))
      · exact z.lst b xs (.inr q)
  · by_cases hb : b = a
    · subst hb
      rcases q with (q | ⟨o, q⟩) | q
      · rw [upd_same] at q; cases q
      · rw [upd_same] at q; cases q
      · exact z.tup b xs (.inr q)
    · rcases q with (q | ⟨o, q⟩) | q
      · rw [upd_ne hb] at q; exact z.tup b xs (.inl (.inl q))
      · rw [upd_ne hb] at q; exact z.tup b xs (.inl (.inr ⟨o, q⟩))
      · exact z.tup b xs (.inr q)
theorem Stp.updL {K : KW} {ρ : Rho} {σ : L2.St} {H : Hp} {i : Nat} {ds es : List PyData} {a : Addr} {xs ys : List V} (h : Hold K ρ σ H) (e : lstAt ρ i = some ds) (hs : σ[i]? = some (some (.ref a))) (ha : H a = some (.lst xs)) (hz : ys.length ≤ sizeLine) (r : RpA K H ys es) :
    Stp K ρ σ H (Vx.updL ρ i es) σ (upd H a (.lst ys)) := by
  have st : Stb H (upd H a (.lst ys)) := ⟨fun b zs q => by rw [upd_ne (fun z => by subst z; rw [ha] at q; cases q)]; exact q, fun b o w q => by rw [upd_ne (fun z => by subst z; rw [ha] at q; cases q)]; exact q⟩
  have hi : i < ρ.length := by rcases lstAt_some e with q | q <;> exact (List.getElem?_eq_some_iff.mp q).1
  have at_i : ∃ m s, ρ[i]? = some s ∧ slFt m H (some (V.ref a)) s a ∧ ∃ s', Vx.updL ρ i es = ρ.set i s' ∧ slOk K (upd H a (.lst ys)) (some (V.ref a)) s' ∧ (∀ n b, slFt n (upd H a (.lst ys)) (some (V.ref a)) s' b → slFt n H (some (V.ref a)) s b) ∧ (∀ o, s = .io o → ∃ o', s' = .io o') := by
    have rep : ownRep K (upd H a (.lst ys)) (.ref a) (.lst es) := ⟨a, ys, rfl, upd_same, r.stb st⟩
    rcases lstAt_some e with q | q
    · refine ⟨false, _, q, ⟨rfl, _, rfl, rfl⟩, .own (.lst es), by unfold Vx.updL; rw [q], ⟨_, rfl, rep⟩, fun n b f => ?_, fun o z => by cases z⟩
      obtain ⟨hm, v, ev, f⟩ := f
      exact ⟨hm, v, ev, f⟩
    · refine ⟨true, _, q, ⟨rfl, _, rfl, rfl⟩, .io (.lst es), by unfold Vx.updL; rw [q], ⟨_, rfl, rep⟩, fun n b f => ?_, fun o z => ⟨_, rfl⟩⟩
      obtain ⟨hm, v, ev, f⟩ := f
      exact ⟨hm, v, ev, f⟩
  obtain ⟨m0, s0, q0, f0, s', eu, ok', ft', io'⟩ := at_i
  have key : ∀ (j : Nat) (t : Sl) (x : Option V), i ≠ j → ρ[j]? = some t → σ[j]? = some x → slOk K (upd H a (.lst ys)) x t ∧ ∀ m b, slFt m (upd H a (.lst ys)) x t b → slFt m H x t b := fun j t x ne h1 h2 =>
    (h.ok j t x h1 h2).stay st fun m b hb => upd_ne fun z => by
      subst z
      exact h.sep i j _ _ _ _ _ m0 m ne q0 h1 hs h2 f0 hb
  rw [eu]
  have back : ∀ (j : Nat) (t : Sl) (x : Option V) m b, (ρ.set i s')[j]? = some t → σ[j]? = some x → slFt m (upd H a (.lst ys)) x t b → ∃ t0, ρ[j]? = some t0 ∧ slFt m H x t0 b := fun j t x m b h1 h2 f => by
    rcases set_get h1 with ⟨e1, e2, _⟩ | ⟨n1, h1'⟩
    · subst e1 e2
      rw [hs] at h2
      cases h2
      exact ⟨s0, q0, ft' m b f⟩
    · exact ⟨t, h1', (key j t x n1 h1' h2).2 m b f⟩
  refine ⟨⟨by simp [h.len], fun j t x h1 h2 => ?_, fun j k t u x y b m n ne h1 h2 h3 h4 f1 f2 => ?_, szs_upd h.sz hz⟩, st, fun b o q n => ?_, fun m b q => ?_, fun b q => ?_, fun j o q => ?_⟩
  · rcases set_get h1 with ⟨e1, e2, _⟩ | ⟨n1, h1'⟩
    · subst e1 e2
      rw [hs] at h2
      cases h2
      exact ok'
    · exact (key j t x n1 h1' h2).1
  · obtain ⟨t0, z1, z2⟩ := back j t x m b h1 h3 f1
    obtain ⟨u0, z3, z4⟩ := back k u y n b h2 h4 f2
    exact h.sep j k _ _ _ _ b m n ne z1 z3 h3 h4 z2 z4
  · rw [upd_ne fun z => by subst z; exact n m0 ⟨i, s0, _, q0, hs, f0⟩]
    exact q
  · obtain ⟨j, t, x, h1, h2, h3⟩ := q
    obtain ⟨t0, z1, z2⟩ := back j t x m b h1 h2 h3
    exact .inl ⟨j, t0, x, z1, h2, z2⟩
  · by_cases hb : b = a
    · subst hb; rw [upd_same]; simp
    · rw [upd_ne hb]; exact q
  · by_cases hj : i = j
    · subst hj
      rw [q0] at q
      obtain ⟨o', rfl⟩ := io' o (Option.some.inj q)
      refine ⟨o', by rw [List.getElem?_set_self hi], rfl, fun b x hx f => .inl ?_⟩
      rw [hs] at hx
      cases hx
      have := ft' true b f
      rw [Option.some.inj q] at this
      exact this
    · refine ⟨o, by rw [List.getElem?_set_ne hj]; exact q, rfl, fun b x hx f => .inl ((key j _ x hj q hx).2 true b f)⟩

/-- x.append(e) -/
def sApp (i : Nat) (m : VM) : SM := fun ρ => (lstAt ρ i).bind fun _ => (m ρ).bind fun p => (lstAt p.2 i).bind fun ds => if ds.length < sizeLine then some (.nx, updL p.2 i (ds ++ [p.1])) else none
/-- x[k] = e, x a list of ours -/
def sSetI (i : Nat) (kx : EM) (m : VM) : SM := fun ρ => (m ρ).bind fun p => (lstAt p.2 i).bind fun _ => (kx p.2).bind fun q => match rd q.2 q.1 with
  | some (.int k) => (lstAt q.2 i).bind fun ds => (ixN ds.length k).map fun j => (.nx, updL q.2 i (ds.set j p.1))
  | _ => none
/-- x op= e, x data -/
def sAug (i : Nat) (g : D2) (m : EM) : SM := fun ρ => match ρ[i]? with
  | some (.val a) => (m ρ).bind fun p => (rd p.2 p.1).bind fun b => (g a b).bind fun d => (setSl p.2 i (.val d)).map fun ρ' => (.nx, ρ')
  | _ => none
section
variable {X : Cx} {e e2 : Expr} {pos : Pos}
theorem se_app (i : Nat) {x : Str} {apos cpos p : Pos} {m : VM} (he : VE X e m) (hN : X.N[i]? = some x := by rfl) (hv : Vis X.env.scope x := by first | exact Or.inl rfl | exact Or.inr (Or.inl rfl) | exact Or.inr (Or.inr rfl)) (hd : (x == ("__debug__" : Str)) = false := by decide)
    (hcd : (x == ("__classdict__" : Str)) = false := by decide)
    (hbase : attributeBase (.Name x p) "append" X.env (eval (.Name x p) X.env) = eval (.Name x p) X.env := by rfl)
    (hfew : ((backTo cpos (starEach [e] X.env)).all (fun x => !x.1) && (backToKw cpos (keywordEach [] X.env)).all (fun x => x.1.isSome)
      && decide ([e].length + ([] : List Keyword).length + (if ([] : List Keyword).isEmpty then 0 else 1) < 30)) = true := by rfl)
    (hline : (apos.endLine == cpos.line) = true := by rfl) (hs : starEach [e] X.env = (false, eval e X.env) :: starEach [] X.env := by rfl)
    (hsw : swapsWith (.Call (.Attribute (.Name x p) "append" apos) [e] [] cpos) none pos.line X.env = pure false := by rfl) :
    SE X (.Expr (.Call (.Attribute (.Name x p) "append" apos) [e] [] cpos) pos) (sApp i m) := by
  refine psm (ps_expr (pe_bm PySem.F.plainAttrs_list PySem.F.slot_list_append PySem.F.type_list_append mt_append (pe_var hN hv hd hcd) (pa_cons he pa_nil hs) hbase hfew hline hs) hsw) fun D σ H ⟨ρ, f, ρ', hh, em, k⟩ => ?_
  obtain ⟨d0, e0, em⟩ := Option.bind_eq_some_iff.mp em
  obtain ⟨⟨d, ρ1⟩, e1, em⟩ := Option.bind_eq_some_iff.mp em
  obtain ⟨ds, e3, em⟩ := Option.bind_eq_some_iff.mp em
  obtain ⟨a, xs, hσ, ha, _⟩ := hh.lst_at e0
  split at em
  · rename_i hl
    cases em
    refine ⟨.ref a, hσ, .inl ⟨rfl, xs, .of ha⟩, ρ, d, ρ1, hh, e1, fun v H1 s1 rp => ?_⟩
    obtain ⟨a', xs', hσ', ha', ra⟩ := s1.hold.lst_at e3
    rw [hσ] at hσ'
    cases hσ'
    have e4 := ra.length
    refine ⟨a, xs', v, rfl, rfl, ha', by omega, ?_⟩
    exact k σ _ (s1.trans (Stp.updL s1.hold e3 hσ ha' (by rw [List.length_append, List.length_singleton]; omega) (ra.append (.cons rp .nil))))
  · cases em
theorem se_setI (i : Nat) {x : Str} {p spos : Pos} {m : VM} {kx : EM} (hk : RE X e2 kx) (he : VE X e m) (hN : X.N[i]? = some x := by rfl) (hv : Vis X.env.scope x := by first | exact Or.inl rfl | exact Or.inr (Or.inl rfl) | exact Or.inr (Or.inr rfl)) (hd : (x == ("__debug__" : Str)) = false := by decide)
    (hcd : (x == ("__classdict__" : Str)) = false := by decide) (hs : swapsWithSole [.Subscript (.Name x p) e2 spos] e pos.line X.env = pure false := by rfl) (hw : swappedStores [.Subscript (.Name x p) e2 spos] e X.env = pure none := by rfl)
    (h1 : (assignEach [.Subscript (.Name x p) e2 spos] X.env).map (·.2) = [assign (.Subscript (.Name x p) e2 spos) X.env] := by rfl)
    (ha : ∀ v, assign (.Subscript (.Name x p) e2 spos) X.env v = (do
      let ov ← holding [v] (eval (.Name x p) X.env)
      let iv ← holding [v, ov] (eval e2 X.env)
      standAt spos
      holding [v, ov, iv] (setItem ov iv v)
      release [v, ov, iv] []) := by intro _; rfl) : SE X (.Assign [.Subscript (.Name x p) e2 spos] e pos) (sSetI i kx m) := by
  refine psm (ps_asg he (pg_sub (pe_var hN hv hd hcd) hk set_list ha) hs hw h1) fun D σ H ⟨ρ, f, ρ', hh, em, k⟩ => ?_
  obtain ⟨⟨d, ρ1⟩, e1, em⟩ := Option.bind_eq_some_iff.mp em
  obtain ⟨d0, e0, em⟩ := Option.bind_eq_some_iff.mp em
  obtain ⟨⟨r, ρ2⟩, e2, em⟩ := Option.bind_eq_some_iff.mp em
  dsimp only at em
  split at em
  · rename_i j q
    obtain ⟨ds, e3, em⟩ := Option.bind_eq_some_iff.mp em
    obtain ⟨n, e4, em⟩ := Option.map_eq_some_iff.mp em
    cases em
    refine ⟨ρ, d, ρ1, hh, e1, fun v H1 s1 rp => ?_⟩
    obtain ⟨a, _, hσ, _, _⟩ := s1.hold.lst_at e0
    refine ⟨.ref a, hσ, ρ1, r, ρ2, s1.hold, e2, fun iv H2 s2 ok => ?_⟩
    obtain ⟨a', xs', hσ', ha', ra⟩ := s2.hold.lst_at e3
    rw [hσ] at hσ'
    cases hσ'
    refine ⟨a, xs', j, n, rfl, (rd_bq s2.hold ok q).int, ha', by rw [ra.length]; exact e4, ?_⟩
    have st := s1.trans s2
    have z := s2.hold.sz.lst a xs' (.of ha')
    exact k σ _ (st.trans (Stp.updL s2.hold e3 hσ ha' (by rw [List.length_set]; exact z) (ra.set n (Rp.stb s2.stb rp))))
  · cases em
theorem se_aug (i : Nat) {x : Str} {op : Operator} {r : R2} {g : D2} {pos' : Pos} {m : EM} (ho : OpR X (inplaceOp op) r) (hd : ∀ (x y : V) (H : Hp) (a b d : PyData) (Q : VK), Bq X.kw H x a → Bq X.kw H y b → g a b = some d → (∀ v, Rp X.kw H v d → Q v H) → r x y H Q) (hN : X.N.Nodup) (he : RE X e m)
    (hi : X.N[i]? = some x := by rfl) (hx : Loc X.env.scope x := by first | exact Or.inl rfl | exact Or.inr rfl) (hf : X.fn x = true ∨ X.env.scope.names.lookup x = some .local := by first | exact .inl rfl | exact .inr rfl) : SE X (.AugAssign (.Name x pos') op e pos) (sAug i g m) := by
  refine psm (ps_aug (i := i) hN hi hx he ho hf) fun D σ H ⟨ρ, f, ρ', hh, em, k⟩ => ?_
  unfold sAug at em
  split at em
  · rename_i a q
    have hi : i < σ.length := by rw [hh.len]; exact (List.getElem?_eq_some_iff.mp q).1
    obtain ⟨v, ev, rv⟩ := hh.ok i _ _ q (List.getElem?_eq_getElem hi)
    have hσ : σ[i]? = some (some v) := by rw [List.getElem?_eq_getElem hi, ev]
    obtain ⟨⟨r, ρ1⟩, e1, em⟩ := Option.bind_eq_some_iff.mp em
    obtain ⟨b, e2, em⟩ := Option.bind_eq_some_iff.mp em
    obtain ⟨d, e3, em⟩ := Option.bind_eq_some_iff.mp em
    obtain ⟨ρ2, e4, em⟩ := Option.map_eq_some_iff.mp em
    cases em
    refine ⟨v, hσ, ρ, r, ρ1, hh, e1, fun y H1 s1 ok => ?_⟩
    exact hd v y H1 a b d _ (.inl (rv.stb s1.stb)) (rd_bq s1.hold ok e2) e3 fun w rp => k _ H1 (s1.trans (Stp.put s1.hold e4 ⟨w, rfl, rp⟩ (fun _ z => by cases z) fun _ _ z => z))
  · cases em
def gAddI : D2
  | .int i, .int j => some (.int (i + j))
  | _, _ => none
theorem se_augAdd (i : Nat) {x : Str} {pos' : Pos} {m : EM} (hN : X.N.Nodup) (he : RE X e m)
    (hi : X.N[i]? = some x := by rfl) (hx : Loc X.env.scope x := by first | exact Or.inl rfl | exact Or.inr rfl) (hf : X.fn x = true ∨ X.env.scope.names.lookup x = some .local := by first | exact .inl rfl | exact .inr rfl) : SE X (.AugAssign (.Name x pos') .Add e pos) (sAug i gAddI m) :=
  se_aug i iop_add (fun x y H a b d Q ba bb e k => by
    unfold gAddI at e
    split at e
    · cases e; exact ⟨_, _, ba.int, bb.int, k _ (.int _)⟩
    · cases e) hN he hi hx hf
end

/-! ### defs of the text, by name -/
structure Fx (K : PySem.W.Frag) (mg : Str → Option Value) (nm : Str) (st : Stmt) (ps : List Str) : Prop where
  ex : ∃ f fd, FunD K nm nm (defArgs st) (defBody st) (defScope st) [] [] f fd ∧ Binds K fd ps [] ∧ mg nm = some (.ref f)
def OkF (P : Program) (w : World) (K : PySem.W.Frag) (mg : Str → Option Value) (base : Heap) (k : Nat) (nm : Str) (ps : List Str) (F : DenF) : Prop :=
  ∃ f fd, FnOk P w K mg base CX0 k f fd ps (spF ⟨K, w⟩ ps.length F) ∧ mg nm = some (.ref f) ∧ PySem.W.keepIn K (.ref f) = true ∧ Binds K fd ps []
section
variable {P : Program} {w : World} {K : KW} {mg : Str → Option Value} {base : Heap}
theorem okF {K : PySem.W.Frag} {nm : Str} {st : Stmt} {N ps : List Str} {k : Nat} {B : SM} (x : Fx K mg nm st ps) (S : FnScope N ps (defScope st)) (hl : ps.length ≤ N.length)
    (hb : ∀ (f : Addr) (cdv : Value) (A : Around) (outer : List Env) (s : Shared) (H : Hp) (E : XK), Room k (A.deeper (PyProof.Rows.envOfC nm (defScope st) s.heap.objs.size f cdv)) →
      SEs (cxOf CX0 P w K mg base N nm (defScope st) f cdv A outer s H E).nox (defBody st) B) : OkF P w K mg base (k + 1) nm ps (fnD ps.length N.length B) := by
  obtain ⟨f, fd, F, b, g⟩ := x.ex
  exact ⟨f, fd, fn_ok F S hl (hb f), g, F.kp, b⟩
end
section
variable {X : Cx} {e : Expr} {es : List Expr} {pos p : Pos} {k : Nat} {nm : Str} {ps : List Str} {F : DenF} {m : AsM}
theorem ve_calN (G : OkF X.prog X.w X.K X.mg X.base k nm ps F) (hr : Room k X.A) (hn : ∀ ρ0 rv ρ1, F ρ0 = some (rv, ρ1) → ρ0.length = ps.length)
    (ha : AE X (e :: es) m) (hg : Gl X nm := by rfl) (hdb : (nm == ("__debug__" : Str)) = false := by decide) (he : starEach (e :: es) X.env = (false, eval e X.env) :: starEach es X.env := by rfl) (hpl : (backTo pos (starEach es X.env)).any (·.1) = false := by rfl) :
    VE X (.Call (.Name nm p) (e :: es) [] pos) (dCl F m) := by
  obtain ⟨f, fd, G, hm, hk, hb⟩ := G
  exact ve_call G hr hm hk hb hn ha hg hdb he hpl
theorem oe_calN (G : OkF X.prog X.w X.K X.mg X.base k nm ps F) (hr : Room k X.A) (hn : ∀ ρ0 rv ρ1, F ρ0 = some (rv, ρ1) → ρ0.length = ps.length)
    (ha : AE X (e :: es) m) (hg : Gl X nm := by rfl) (hdb : (nm == ("__debug__" : Str)) = false := by decide) (he : starEach (e :: es) X.env = (false, eval e X.env) :: starEach es X.env := by rfl) (hpl : (backTo pos (starEach es X.env)).any (·.1) = false := by rfl) :
    OE X (.Call (.Name nm p) (e :: es) [] pos) (oCl F m) := by
  obtain ⟨f, fd, G, hm, hk, hb⟩ := G
  exact oe_call G hr hm hk hb hn ha hg hdb he hpl
end
end Vx
/-! Vx9: isinstance; comprehensions of two fors. -/
namespace Vx
open PySem PySem.Spec L2

def tyNm : PyData → Option String
  | .none => some "NoneType"
  | .bool _ => some "bool"
  | .int _ => some "int"
  | .str _ => some "str"
  | .list _ => some "list"
  | .tuple _ => some "tuple"
  | .dict _ => none
theorem bq_ty {K : KW} {H : Hp} {v : V} {d : PyData} {n : String} (h : Bq K H v d) (e : tyNm d = some n) : TyX K.K H v (.type n) := by
  cases d with
  | none => cases e; rw [h.none]; exact .base .non
  | bool b => cases e; rw [h.bool]; exact .base (.bl b)
  | int i => cases e; rw [h.int]; exact .base (.int i)
  | str x => cases e; rw [h.str]; exact .base (.str x)
  | list ds =>
    cases e
    obtain ⟨a, xs, rfl, s, _⟩ := h.list
    rcases s with (s | ⟨o, s⟩) | ⟨o, its, n, hk, hc, _⟩
    · exact .base (.lst s)
    · exact .base (.frz s)
    · exact .kList hk hc
  | tuple ds =>
    cases e
    obtain ⟨a, xs, rfl, s, _⟩ := h.tuple
    rcases s with (s | ⟨o, s⟩) | ⟨o, its, n, hk, hc, _⟩
    · exact .base (.tup s)
    · exact .fTuple s
    · exact .kTuple hk hc
  | dict _ => cases e
/-- is d one of these built-in types? -/
def isAny (n : String) : List String → Option Bool
  | [] => some false
  | c :: cs => (kitB n c).bind fun b => if b = true then some true else isAny n cs
def dIsi (c : String) (m : EM) : EM := fun ρ => (m ρ).bind fun p => (rd p.2 p.1).bind fun d => (tyNm d).bind fun n => (kitB n c).map fun b => (.dat (.bool b), p.2)
def dIsi2 (c1 c2 : String) (m : EM) : EM := fun ρ => (m ρ).bind fun p => (rd p.2 p.1).bind fun d => (tyNm d).bind fun n => (isAny n [c1, c2]).map fun b => (.dat (.bool b), p.2)
section
variable {X : Cx} {e : Expr} {p pos q q1 q2 qt : Pos} {m : EM}
theorem re_isi {x : Str} {c : String} (h : RE X e m) (hm : X.mg "isinstance" = none) (hx : X.mg x = none) (hv : bootBuiltins x = some (.type c)) (hg : Gl X "isinstance" := by rfl) (hgx : Gl X x := by rfl) (hn : x ≠ "__name__" := by decide) (hdb : (x == ("__debug__" : Str)) = false := by decide)
    (hs1 : starEach [.Name x q] X.env = (false, eval (.Name x q) X.env) :: starEach [] X.env := by rfl) (hs : starEach [e, .Name x q] X.env = (false, eval e X.env) :: starEach [.Name x q] X.env := by rfl) (hpl : (backTo pos (starEach [.Name x q] X.env)).any (·.1) = false := by rfl) :
    RE X (.Call (.Name "isinstance" p) [e, .Name x q] [] pos) (dIsi c m) := by
  refine pem (pe_callB call_isi hg hm (by decide +kernel) (pa_cons h (pa_cons (pe_bltn (v := .ty c) (pos := q) hgx hx hv rfl hn hdb) pa_nil hs1) hs) (by decide) (by decide) hs hpl) fun σ H Q ⟨ρ, r, ρ', hh, em, k⟩ => ?_
  obtain ⟨⟨ra, ρ1⟩, e1, em⟩ := Option.bind_eq_some_iff.mp em
  obtain ⟨d, e2, em⟩ := Option.bind_eq_some_iff.mp em
  obtain ⟨n, e3, em⟩ := Option.bind_eq_some_iff.mp em
  obtain ⟨b, e4, em⟩ := Option.map_eq_some_iff.mp em
  cases em
  exact ⟨ρ, ra, _, hh, e1, fun v H1 s1 ok => ⟨v, .ty c, .type n, .type c, b, rfl, .ty c, bq_ty (rd_bq s1.hold ok e2) e3, kit_ty e4, k _ H1 s1 (.bl b)⟩⟩
theorem kitAny_of {K : KW} {n : String} : ∀ {cs : List String} {b : Bool}, isAny n cs = some b → PySem.W.kitAny K.K (.type n) (cs.map Value.type) = some b
  | [], b, h => by cases h; rfl
  | c :: cs, b, h => by
    obtain ⟨b', e1, e2⟩ := Option.bind_eq_some_iff.mp h
    cases b' with
    | true =>
      simp only [if_true] at e2
      cases e2
      exact kitAny_cons (kit_ty e1) (fun z => by cases z) fun _ => rfl
    | false =>
      simp only [Bool.false_eq_true, if_false] at e2
      exact kitAny_cons (kit_ty e1) (fun _ => kitAny_of e2) fun z => by cases z
theorem re_isi2 {x y : Str} {c1 c2 : String} {kk : Nat} (h : RE X e m) (hm : X.mg "isinstance" = none) (hx : X.mg x = none) (hy : X.mg y = none) (hv : bootBuiltins x = some (.type c1)) (hv2 : bootBuiltins y = some (.type c2)) (hg : Gl X "isinstance" := by rfl) (hgx : Gl X x := by rfl) (hgy : Gl X y := by rfl)
    (hn : x ≠ "__name__" := by decide) (hn2 : y ≠ "__name__" := by decide) (hdb : (x == ("__debug__" : Str)) = false := by decide) (hdb2 : (y == ("__debug__" : Str)) = false := by decide)
    (ht1 : starEach [.Name y q2] X.env = (false, eval (.Name y q2) X.env) :: starEach [] X.env := by rfl) (ht2 : starEach [.Name x q1, .Name y q2] X.env = (false, eval (.Name x q1) X.env) :: starEach [.Name y q2] X.env := by rfl)
    (hs1 : starEach [.Tuple [.Name x q1, .Name y q2] kk qt] X.env = (false, eval (.Tuple [.Name x q1, .Name y q2] kk qt) X.env) :: starEach [] X.env := by rfl)
    (hs : starEach [e, .Tuple [.Name x q1, .Name y q2] kk qt] X.env = (false, eval e X.env) :: starEach [.Tuple [.Name x q1, .Name y q2] kk qt] X.env := by rfl) (hpl : (backTo pos (starEach [.Tuple [.Name x q1, .Name y q2] kk qt] X.env)).any (·.1) = false := by rfl) :
    RE X (.Call (.Name "isinstance" p) [e, .Tuple [.Name x q1, .Name y q2] kk qt] [] pos) (dIsi2 c1 c2 m) := by
  refine pem (pe_gh (pe_callB call_isiT hg hm (by decide +kernel) (pa_cons h (pa_cons (pe_tup (x1 := kk) (pos := qt) (pa_cons (pe_bltn (v := .ty c1) (pos := q1) hgx hx hv rfl hn hdb) (pa_cons (pe_bltn (v := .ty c2) (pos := q2) hgy hy hv2 rfl hn2 hdb2) pa_nil ht1) ht2)) pa_nil hs1) hs) (by decide) (by decide) hs hpl)) fun σ H Q ⟨ρ, r, ρ', hh, em, k⟩ => ?_
  obtain ⟨⟨ra, ρ1⟩, e1, em⟩ := Option.bind_eq_some_iff.mp em
  obtain ⟨d, e2, em⟩ := Option.bind_eq_some_iff.mp em
  obtain ⟨n, e3, em⟩ := Option.bind_eq_some_iff.mp em
  obtain ⟨b, e4, em⟩ := Option.map_eq_some_iff.mp em
  cases em
  refine ⟨ρ, ra, _, hh, e1, fun v H1 s1 ok => ⟨by rw [sizeLine_eq]; simp, fun o ho => ?_⟩⟩
  have bt := bq_ty (rd_bq s1.hold ok e2) e3
  have bt' : TyX X.K (upd H1 o (.tup [.ty c1, .ty c2])) v (.type n) := by
    have st : Same H1 (upd H1 o (.tup [.ty c1, .ty c2])) := same_new ho
    cases bt with
    | base b =>
      cases b with
      | non => exact .base .non
      | bl y => exact .base (.bl y)
      | int y => exact .base (.int y)
      | str y => exact .base (.str y)
      | flt y => exact .base (.flt y)
      | lst ea => exact .base (.lst (st _ _ ea))
      | frz ea => exact .base (.frz (st _ _ ea))
      | tup ea => exact .base (.tup (st _ _ ea))
      | dK ea => exact .base (.dK (st _ _ ea))
      | dT ea => exact .base (.dT (st _ _ ea))
    | byt y => exact .byt y
    | set ea => exact .set (st _ _ ea)
    | kList a b => exact .kList a b
    | kTuple a b => exact .kTuple a b
    | kDict a b => exact .kDict a b
    | fTuple ea => exact .fTuple (st _ _ ea)
    | fDict ea => exact .fDict (st _ _ ea)
  refine ⟨v, o, [.ty c1, .ty c2], .type n, [.type c1, .type c2], b, rfl, upd_same, .cons (.ty c1) (.cons (.ty c2) .nil), bt', kitAny_of (K := X.kw) (cs := [c1, c2]) e4, fun z => .inl ?_⟩
  exact k _ _ (s1.trans (s1.hold.grow (same_new ho) z)) (.bl b)
end

/-! ### comprehensions of two fors -/
def comp2D (g : GM) (t : TM) (it1 : IM) (g1 : GM) (t1 : TM) (m : VM) (vs vs1 : List Nat) : List PyData → Rho → Option (List PyData × Rho)
  | [], ρ => some ([], ρ)
  | d :: ds, ρ => (g d ρ).bind fun ρ1 => (t ρ1).bind fun p => if p.1 = true then
        (it1 p.2).bind fun q => (wipeO q.2 vs1).bind fun ρ2 => (compD g1 t1 m vs1 q.1 ρ2).bind fun r => (wipeO r.2 vs).bind fun ρ3 => (comp2D g t it1 g1 t1 m vs vs1 ds ρ3).map fun u => (r.1 ++ u.1, u.2)
      else (wipeO p.2 vs).bind fun ρ2 => comp2D g t it1 g1 t1 m vs vs1 ds ρ2
def oLc2 (it : IM) (g : GM) (t : TM) (it1 : IM) (g1 : GM) (t1 : TM) (m : VM) (vs vs1 : List Nat) : OM := fun ρ => (it ρ).bind fun p => (wipeO p.2 vs).bind fun ρw => (comp2D g t it1 g1 t1 m vs vs1 p.1 ρw).bind fun r => if r.1.length ≤ sizeLine then some (.lst r.1, r.2) else none
theorem wipe_mono {σ τ : L2.St} {is js : List Nat} (h : L2.wipe σ is = L2.wipe τ is) (s : ∀ i ∈ is, i ∈ js) : L2.wipe σ js = L2.wipe τ js := by
  rw [wipe_eq] at h ⊢
  exact ⟨h.1, fun i hi => h.2 i fun z => hi (s i z)⟩
/-- what must be known of the new list at D -/
structure AtD (K : KW) (ρ : Rho) (σ : L2.St) (G : Hp) (D : Addr) (acc : List V) (done : List PyData) : Prop where
  no : ∀ m, ¬ owned m ρ σ G D
  at_ : G D = some (.lst acc)
  rp : RpA K G acc done
theorem AtD.step {K : KW} {ρ ρ' : Rho} {σ σ' : L2.St} {G G' : Hp} {D : Addr} {acc : List V} {done : List PyData} (a : AtD K ρ σ G D acc done) (s : Stp K ρ σ G ρ' σ' G') : AtD K ρ' σ' G' D acc done :=
  ⟨fun m q => (s.fresh m D q).elim (a.no m) fun z => (by rw [a.at_] at z; cases z), s.keep D _ a.at_ a.no, a.rp.stb s.stb⟩
theorem AtD.push {K : KW} {ρ0 ρ : Rho} {σ0 σ : L2.St} {H G : Hp} {D : Addr} {acc : List V} {done : List PyData} {v : V} {d : PyData} (a : AtD K ρ σ G D acc done) (s : Stp K ρ0 σ0 H ρ σ G) (hD : H D = none) (rv : Rp K G v d) (hl : (acc ++ [v]).length ≤ sizeLine) :
    AtD K ρ σ (upd G D (.lst (acc ++ [v]))) D (acc ++ [v]) (done ++ [d]) ∧ Stp K ρ0 σ0 H ρ σ (upd G D (.lst (acc ++ [v]))) := by
  have st : Stb G (upd G D (.lst (acc ++ [v]))) := ⟨fun b ys q => by rw [upd_ne (fun z => by subst z; rw [a.at_] at q; cases q)]; exact q, fun b o w q => by rw [upd_ne (fun z => by subst z; rw [a.at_] at q; cases q)]; exact q⟩
  refine ⟨⟨?_, upd_same, (a.rp.append (.cons rv .nil)).stb st⟩, s.poke hD a.no a.at_ (szs_upd s.hold.sz hl)⟩
  rintro m' ⟨j, t, x, h1, h2, h3⟩
  have ok := s.hold.ok j t x h1 h2
  have stq := ok.stay (H' := upd G D (.lst (acc ++ [v]))) st fun m b hb => by
    rw [upd_ne]
    rintro rfl
    exact a.no m ⟨j, t, x, h1, h2, hb⟩
  exact a.no m' ⟨j, t, x, h1, h2, stq.2 m' D h3⟩
theorem AtD.un {K : KW} {ρ : Rho} {σ τ : L2.St} {G : Hp} {D : Addr} {acc : List V} {done : List PyData} (a : AtD K ρ σ G D acc done) (hl : τ.length = σ.length) (e : ∀ (i : Nat), ρ[i]? ≠ some Sl.un → τ[i]? = σ[i]?) : AtD K ρ τ G D acc done :=
  ⟨fun m q => a.no m (owned_un hl e q), a.at_, a.rp⟩
section
variable {X : Cx}
theorem lc2_read {K : KW} {it it1 : IM} {g g1 : GM} {t t1 : TM} {m : VM} {vs vs1 : List Nat} {σ : L2.St} {H : Hp} {Q : VK} (hsub : ∀ i ∈ vs1, i ∈ vs) (h : tO K (oLc2 it g t it1 g1 t1 m vs vs1) σ H Q) (is : List Nat) (his : ∀ i ∈ is, i ∈ vs) :
    tLc2 (tI K it) (tG K g is) (tT K t) (tI K it1) (tG K g1 vs1) (tT K t1) (tV K m) vs vs1 σ H Q := by
  obtain ⟨ρ, o, ρf, hh, em, k⟩ := h
  obtain ⟨⟨ds, ρ1⟩, e1, em⟩ := Option.bind_eq_some_iff.mp em
  obtain ⟨ρw, e2, em⟩ := Option.bind_eq_some_iff.mp em
  obtain ⟨⟨ys, ρq⟩, e3, em⟩ := Option.bind_eq_some_iff.mp em
  dsimp only at em
  by_cases hz : ys.length ≤ sizeLine
  · rw [if_pos hz] at em
    cases em
    refine ⟨ρ, ds, ρ1, hh, e1, fun J H1 s1 fd D hD => ?_⟩
    obtain ⟨sw, nw⟩ := Stp.wipe s1.hold e2
    dsimp only at e3
    have wl : (L2.wipe σ vs).length = σ.length := wipe_length σ vs
    have H0w : Hold K ρw (L2.wipe σ vs) H1 := sw.hold.un wl fun i hi => wipe_out (nw i hi)
    refine ⟨fun i n G => n = ds.length - i ∧ i ≤ ds.length ∧ ∃ ρt acc done rest, Stp K ρw (L2.wipe σ vs) H1 ρt (L2.wipe σ vs) G ∧ AtD K ρt (L2.wipe σ vs) G D acc done ∧ (∀ (j : Nat), ρt[j]? ≠ some Sl.un → j ∉ vs) ∧
        comp2D g t it1 g1 t1 m vs vs1 (ds.drop i) ρt = some (rest, ρf) ∧ ys = done ++ rest, ⟨ds.length, by simp, Nat.zero_le _, ρw, [], [], ys, ?_, ⟨?_, upd_same, .nil⟩, nw, by simpa using e3, rfl⟩, ?_⟩
    · exact H0w.grow (same_new hD) (szs_upd H0w.sz (Nat.zero_le _))
    · rintro m' ⟨i, s, x, h1, h2, h3⟩
      have ok := H0w.ok i s x h1 h2
      have stq := ok.stay (H' := upd H1 D (.lst [])) ⟨fun _ _ e => same_new hD _ _ e, fun _ _ _ e => same_new hD _ _ e⟩ fun m b hb => by
        have t' := H0w.trk ⟨i, s, x, h1, h2, hb⟩
        rw [upd_ne]
        rintro rfl
        exact t' hD
      exact H0w.trk ⟨i, s, x, h1, h2, stq.2 m' D h3⟩ hD
    rintro i n G ⟨rfl, hi, ρt, acc, done, rest, st, aD, nu, ec, ey⟩
    by_cases hlt : i < ds.length
    · refine .inr ⟨fd.go i G st.stb hlt, fun G' => ∃ ρt acc done rest, Stp K ρw (L2.wipe σ vs) H1 ρt (L2.wipe σ vs) G' ∧ AtD K ρt (L2.wipe σ vs) G' D acc done ∧ (∀ (j : Nat), ρt[j]? ≠ some Sl.un → j ∉ vs) ∧
          comp2D g t it1 g1 t1 m vs vs1 (ds.drop (i + 1)) ρt = some (rest, ρf) ∧ ys = done ++ rest, fun G' q => ⟨ds.length - (i + 1), by omega, rfl, hlt, q⟩, fun x G' y => ?_⟩
      obtain ⟨sm, z, d, ed, rp⟩ := fd.yld i G x G' st.stb st.hold.sz hlt y
      have g0 := st.hold.grow sm z
      have st2 := st.trans g0
      have aD0 := aD.step g0
      rw [List.drop_eq_getElem_cons hlt] at ec
      rw [List.getElem?_eq_getElem hlt] at ed
      rw [Option.some.inj ed] at ec
      unfold comp2D at ec
      obtain ⟨ρ2, q1, ec⟩ := Option.bind_eq_some_iff.mp ec
      obtain ⟨⟨b, ρ3⟩, q2, ec⟩ := Option.bind_eq_some_iff.mp ec
      refine ⟨ρt, d, ρ2, st2.hold, rp, q1, fun τ2 s2 w2 => ?_⟩
      have w2' : L2.wipe τ2 vs = L2.wipe σ vs := (wipe_mono w2 his).trans (wipe_wipe σ vs)
      refine ⟨w2', ρ2, b, ρ3, s2.hold, q2, fun G3 s3 => ?_⟩
      have τl : τ2.length = σ.length := (wipe_eq.mp w2').1
      -- back to the turn's slots
      have close : ∀ {ρa ρb : Rho} {Ga : Hp} {τ : L2.St} {ac : List V} {dn : List PyData}, L2.wipe τ vs = L2.wipe σ vs → Stp K ρw (L2.wipe σ vs) H1 ρa τ Ga → AtD K ρa τ Ga D ac dn → wipeO ρa vs = some ρb →
          Stp K ρw (L2.wipe σ vs) H1 ρb (L2.wipe σ vs) Ga ∧ AtD K ρb (L2.wipe σ vs) Ga D ac dn ∧ ∀ (j : Nat), ρb[j]? ≠ some Sl.un → j ∉ vs := fun {ρa ρb Ga τ ac dn} wt sa aa eb => by
        obtain ⟨sb, nb⟩ := Stp.wipe sa.hold eb
        have hl' : (L2.wipe σ vs).length = τ.length := wl.trans (wipe_eq.mp wt).1.symm
        have he' : ∀ (j : Nat), ρb[j]? ≠ some Sl.un → (L2.wipe σ vs)[j]? = τ[j]? := fun j hj => by rw [wipe_out (nb j hj), (wipe_eq.mp wt).2 j (nb j hj)]
        exact ⟨(sa.trans sb).un rfl (fun _ _ => rfl) hl' he', (aa.step sb).un hl' he', nb⟩
      cases b with
      | false =>
        simp only [Bool.false_eq_true, if_false] at ec ⊢
        obtain ⟨ρ4, e4, ec⟩ := Option.bind_eq_some_iff.mp ec
        obtain ⟨sB, aB, nB⟩ := close w2' (st2.trans (s2.trans s3)) (aD0.step (s2.trans s3)) e4
        exact ⟨ρ4, acc, done, rest, sB, aB, nB, ec, ey⟩
      | true =>
        simp only [if_true] at ec ⊢
        obtain ⟨⟨ds1, ρ4⟩, e4, ec⟩ := Option.bind_eq_some_iff.mp ec
        obtain ⟨ρ5, e5, ec⟩ := Option.bind_eq_some_iff.mp ec
        obtain ⟨⟨rs1, ρ6⟩, e6, ec⟩ := Option.bind_eq_some_iff.mp ec
        obtain ⟨ρ7, e7, ec⟩ := Option.bind_eq_some_iff.mp ec
        obtain ⟨⟨rs2, ρ8⟩, e8, ec⟩ := Option.map_eq_some_iff.mp ec
        cases ec
        dsimp only at e6 e7
        refine ⟨ρ3, ds1, ρ4, s3.hold, e4, fun J1 G4 s4 fd1 => ?_⟩
        obtain ⟨sw1, nw1⟩ := Stp.wipe s4.hold e5
        have sA := s2.trans (s3.trans s4)
        have wl1 : (L2.wipe τ2 vs1).length = τ2.length := wipe_length τ2 vs1
        have un1 : ∀ (j : Nat), ρ5[j]? ≠ some Sl.un → (L2.wipe τ2 vs1)[j]? = τ2[j]? := fun j hj => wipe_out (nw1 j hj)
        have SA : Stp K ρw (L2.wipe σ vs) H1 ρ5 (L2.wipe τ2 vs1) G4 := (st2.trans (sA.trans sw1)).un rfl (fun _ _ => rfl) wl1 un1
        have AA : AtD K ρ5 (L2.wipe τ2 vs1) G4 D acc done := ((aD0.step sA).step sw1).un wl1 un1
        have ww : ∀ {τ : L2.St}, L2.wipe τ vs1 = L2.wipe τ2 vs1 → L2.wipe τ vs = L2.wipe σ vs := fun {τ} w => (wipe_mono w hsub).trans w2'
        refine ⟨fun j n G => n = ds1.length - j ∧ j ≤ ds1.length ∧ ∃ ρt acc done2 rest, Stp K ρw (L2.wipe σ vs) H1 ρt (L2.wipe τ2 vs1) G ∧ Stb G4 G ∧ AtD K ρt (L2.wipe τ2 vs1) G D acc (done ++ done2) ∧ (∀ (j : Nat), ρt[j]? ≠ some Sl.un → j ∉ vs1) ∧
            compD g1 t1 m vs1 (ds1.drop j) ρt = some (rest, ρ6) ∧ rs1 = done2 ++ rest, ⟨ds1.length, by simp, Nat.zero_le _, ρ5, acc, [], rs1, SA, Stb.refl _, by rw [List.append_nil]; exact AA, nw1, by simpa using e6, rfl⟩, ?_⟩
        rintro j n G ⟨rfl, hj, ρt, acc, done2, rest, st, stb4, aD, nu, ec, ey1⟩
        by_cases hlt1 : j < ds1.length
        · refine .inr ⟨fd1.go j G stb4 hlt1, fun G' => ∃ ρt acc done2 rest, Stp K ρw (L2.wipe σ vs) H1 ρt (L2.wipe τ2 vs1) G' ∧ Stb G4 G' ∧ AtD K ρt (L2.wipe τ2 vs1) G' D acc (done ++ done2) ∧ (∀ (j : Nat), ρt[j]? ≠ some Sl.un → j ∉ vs1) ∧
              compD g1 t1 m vs1 (ds1.drop (j + 1)) ρt = some (rest, ρ6) ∧ rs1 = done2 ++ rest, fun G' q => ⟨ds1.length - (j + 1), by omega, rfl, hlt1, q⟩, fun x G' y => ?_⟩
          obtain ⟨sm, z, d, ed, rp⟩ := fd1.yld j G x G' stb4 st.hold.sz hlt1 y
          have g0 := st.hold.grow sm z
          have st2 := st.trans g0
          have aD0 := aD.step g0
          rw [List.drop_eq_getElem_cons hlt1] at ec
          rw [List.getElem?_eq_getElem hlt1] at ed
          rw [Option.some.inj ed] at ec
          unfold compD at ec
          obtain ⟨ρa, q1, ec⟩ := Option.bind_eq_some_iff.mp ec
          obtain ⟨⟨b, ρb⟩, q2, ec⟩ := Option.bind_eq_some_iff.mp ec
          refine ⟨ρt, d, ρa, st2.hold, rp, q1, fun τ3 s2 w3 => ?_⟩
          have w3' : L2.wipe τ3 vs1 = L2.wipe τ2 vs1 := w3.trans (wipe_wipe τ2 vs1)
          refine ⟨w3', ρa, b, ρb, s2.hold, q2, fun G5 s3 => ?_⟩
          have close1 : ∀ {ρa ρb : Rho} {Ga : Hp} {ac : List V} {dn : List PyData}, Stp K ρw (L2.wipe σ vs) H1 ρa τ3 Ga → AtD K ρa τ3 Ga D ac dn → wipeO ρa vs1 = some ρb →
              Stp K ρw (L2.wipe σ vs) H1 ρb (L2.wipe τ2 vs1) Ga ∧ AtD K ρb (L2.wipe τ2 vs1) Ga D ac dn ∧ ∀ (j : Nat), ρb[j]? ≠ some Sl.un → j ∉ vs1 := fun {ρa ρb Ga ac dn} sa aa eb => by
            obtain ⟨sb, nb⟩ := Stp.wipe sa.hold eb
            have hl' : (L2.wipe τ2 vs1).length = τ3.length := wl1.trans (wipe_eq.mp w3').1.symm
            have he' : ∀ (j : Nat), ρb[j]? ≠ some Sl.un → (L2.wipe τ2 vs1)[j]? = τ3[j]? := fun j hj => by rw [wipe_out (nb j hj), (wipe_eq.mp w3').2 j (nb j hj)]
            exact ⟨(sa.trans sb).un rfl (fun _ _ => rfl) hl' he', (aa.step sb).un hl' he', nb⟩
          have stb5 : Stb G4 G5 := stb4.trans (g0.trans (s2.trans s3)).stb
          cases b with
          | false =>
            simp only [Bool.false_eq_true, if_false] at ec ⊢
            obtain ⟨ρc, e9, ec⟩ := Option.bind_eq_some_iff.mp ec
            obtain ⟨sB, aB, nB⟩ := close1 (st2.trans (s2.trans s3)) (aD0.step (s2.trans s3)) e9
            exact ⟨ρc, acc, done2, rest, sB, stb5, aB, nB, ec, ey1⟩
          | true =>
            simp only [if_true] at ec ⊢
            obtain ⟨⟨yv, ρc⟩, e9, ec⟩ := Option.bind_eq_some_iff.mp ec
            obtain ⟨ρd, e10, ec⟩ := Option.bind_eq_some_iff.mp ec
            obtain ⟨⟨rs, ρe⟩, e11, ec⟩ := Option.map_eq_some_iff.mp ec
            cases ec
            refine ⟨ρb, yv, ρc, s3.hold, e9, fun v G6 s6 rv => ?_⟩
            obtain ⟨sB, aB, nB⟩ := close1 (st2.trans (s2.trans (s3.trans s6))) (aD0.step (s2.trans (s3.trans s6))) e10
            have la := aB.rp.length
            have hacc : (acc ++ [v]).length ≤ sizeLine := by
              have : (done ++ done2).length + 1 ≤ ys.length := by
                rw [ey, ey1]
                simp only [List.length_append, List.length_cons]
                omega
              rw [List.length_append, List.length_singleton, la]
              omega
            obtain ⟨aC, sC⟩ := aB.push sB hD rv hacc
            refine ⟨acc, aB.at_, by rw [List.length_append, List.length_singleton] at hacc; omega, ρd, acc ++ [v], done2 ++ [yv], rs, sC, ?_, by rw [← List.append_assoc]; exact aC, nB, e11, by rw [ey1, List.append_assoc]; rfl⟩
            exact (stb5.trans s6.stb).trans ⟨fun b ys q => by rw [upd_ne (fun z => by subst z; rw [aB.at_] at q; cases q)]; exact q, fun b o w q => by rw [upd_ne (fun z => by subst z; rw [aB.at_] at q; cases q)]; exact q⟩
        · have ej : j = ds1.length := by omega
          subst ej
          refine .inl ⟨fd1.stop _ G stb4 (Nat.le_refl _), ?_⟩
          rw [List.drop_length] at ec
          cases ec
          rw [List.append_nil] at ey1
          subst ey1
          have wt : L2.wipe (L2.wipe τ2 vs1) vs = L2.wipe σ vs := ww (wipe_wipe τ2 vs1)
          obtain ⟨sB, aB, nB⟩ := close wt st aD e7
          exact ⟨ρ7, acc, done ++ rs1, rs2, sB, aB, nB, e8, by rw [ey, List.append_assoc]⟩
    · have ei : i = ds.length := by omega
      subst ei
      refine .inl ⟨fd.stop _ G st.stb (Nat.le_refl _), ?_⟩
      rw [List.drop_length] at ec
      cases ec
      rw [List.append_nil] at ey
      subst ey
      have s2 : Stp K ρw σ H1 ρf σ G := st.un wl.symm (fun j hj => (wipe_out (nw j hj)).symm) wl.symm fun j hj => (wipe_out (nu j hj)).symm
      have s3 := s1.trans (sw.trans s2)
      have aD' := aD.un wl.symm fun j hj => (wipe_out (nu j hj)).symm
      refine k (.ref D) G s3 ⟨⟨D, acc, rfl, aD'.at_, aD'.rp⟩, fun b hb => ?_⟩
      cases hb
      refine ⟨?_, aD'.no⟩
      cases e : H D with
      | none => rfl
      | some u => exact absurd hD (s1.trk D (by rw [e]; simp))
  · rw [if_neg hz] at em; cases em
theorem oe_lc2 {elt tg iter tg1 iter1 : Expr} {ifs ifs1 : List Expr} {scope : Scope} {own : List (Str × Nat)} {vs1 is : List Nat} {pos : Pos} {it it1 : IM} {g g1 : GM} {t t1 : TM} {m : VM} (hc : X.calm = true) (hN : X.N.Nodup) (ok : BlkOk X.N X.env.scope scope own)
    (hv : ∀ i ∈ vs1, i ∈ own.map (·.2)) (hv2 : ∀ i ∈ is, i ∈ own.map (·.2)) (hi : IE X tg iter it)
    (hg : ∀ (s : Shared) (H : Hp) (C : Addr) (cl : List (Str × Addr)) (fp : List Addr), GE (X.blk s H scope (compEnvC scope cl C X.env) fp) tg g is)
    (ht : ∀ (s : Shared) (H : Hp) (C : Addr) (cl : List (Str × Addr)) (fp : List Addr), BTs (X.blk s H scope (compEnvC scope cl C X.env) fp) ifs t)
    (hi1 : ∀ (s : Shared) (H : Hp) (C : Addr) (cl : List (Str × Addr)) (fp : List Addr), IE (X.blk s H scope (compEnvC scope cl C X.env) fp) tg1 iter1 it1)
    (hg1 : ∀ (s : Shared) (H : Hp) (C : Addr) (cl : List (Str × Addr)) (fp : List Addr), GE (X.blk s H scope (compEnvC scope cl C X.env) fp) tg1 g1 vs1)
    (ht1 : ∀ (s : Shared) (H : Hp) (C : Addr) (cl : List (Str × Addr)) (fp : List Addr), BTs (X.blk s H scope (compEnvC scope cl C X.env) fp) ifs1 t1)
    (he : ∀ (s : Shared) (H : Hp) (C : Addr) (cl : List (Str × Addr)) (fp : List Addr), VE (X.blk s H scope (compEnvC scope cl C X.env) fp) elt m) (hs : ∀ x, foldedSetIterable iter X.env x = pure x := by intro _; rfl) (hs1 : ∀ env x, foldedSetIterable iter1 env x = pure x := by intro _ _; rfl) :
    OE X (.ListComp elt [⟨tg, iter, ifs, 0⟩, ⟨tg1, iter1, ifs1, 0⟩] scope pos) (oLc2 it g t it1 g1 t1 m (own.map (·.2)) vs1) := by
  refine pem (pe_lc2 (te := tV X.kw m) (g := tG X.kw g is) (tt := tT X.kw t) (wi1 := tI X.kw it1) (g1 := tG X.kw g1 vs1) (tt1 := tT X.kw t1) hc hN hi ok hv hg ht hi1 hg1 ht1 he hs hs1) fun σ H Q h => ?_
  exact lc2_read hv h is hv2
end
end Vx
/-! Vx10: room, is None, int * bool, chains, a def that calls itself at depth none. -/
namespace Vx
open PySem PySem.Spec L2
theorem u64 {k : Nat} {A : Around} (r : Room k A) : A.units + 64 < cLine := r.units
theorem u65 {k : Nat} {A : Around} (r : Room k A) : A.units + 65 < cLine := by have := r.un; omega
def gIs : D2
  | a, .none => some (.bool (isNo a))
  | _, _ => none
def gIsNot : D2
  | a, .none => some (.bool (!isNo a))
  | _, _ => none
theorem opd_is {K : KW} : OpD K (fun x y H Q => y = .non ∧ Q (.bl (decide (x = .non))) H) gIs := by
  intro x y H a b d Q z ba bb e k
  unfold gIs at e
  split at e
  · cases e
    refine ⟨bb.none, ?_⟩
    rw [isn_d ba]
    exact k _ H (Same.refl _) (.inl (.bl _))
  · cases e
theorem opd_isNot {K : KW} : OpD K (fun x y H Q => y = .non ∧ Q (.bl (!decide (x = .non))) H) gIsNot := by
  intro x y H a b d Q z ba bb e k
  unfold gIsNot at e
  split at e
  · cases e
    refine ⟨bb.none, ?_⟩
    rw [isn_d ba]
    exact k _ H (Same.refl _) (.inl (.bl _))
  · cases e
section
variable {P : Program} {w : World} {K : KW} {mg : Str → Option Value} {base : Heap}
theorem okF0 {K : PySem.W.Frag} {nm : Str} {st : Stmt} {ps : List Str} (x : Fx K mg nm st ps) (k : Nat) : OkF P w K mg base k nm ps (fun _ => none) := by
  obtain ⟨f, fd, F, b, g⟩ := x.ex
  refine ⟨f, fd, ⟨fun vs H Q E ⟨ρ, rv, ρ', h, _⟩ => h, fun A outer s H args us vs Q E hr e0 hb r ⟨ρ, rv, ρ', _, _, _, em, _⟩ => by cases em⟩, g, F.kp, b⟩
end
theorem fn0_len {k : Nat} (ρ0 : Rho) (rv : Rv) (ρ1 : Rho) (h : (fun _ => none : DenF) ρ0 = some (rv, ρ1)) : ρ0.length = k := by cases h
end Vx
/-! Vx11: dicts that are ours: look-ups, stores, the empty dict, their keys. -/
namespace Vx
open PySem PySem.Spec L2

/-! ### keys -/
mutual
def keyOf : PyData → Option NestedKey
  | .none => some .none
  | .int i => some (.num i)
  | .str x => some (.text x)
  | .tuple ds => (keysOf ds).map .tup
  | .bool _ => none
  | .list _ => none
  | .dict _ => none
def keysOf : List PyData → Option (List NestedKey)
  | [] => some []
  | d :: ds => match keyOf d, keysOf ds with
    | some k, some ks => some (k :: ks)
    | _, _ => none
end
mutual
theorem keyOf_data : ∀ {d : PyData} {k : NestedKey}, keyOf d = some k → k.data = d
  | .none, k, h => by simp only [keyOf] at h; cases h; simp [NestedKey.data]
  | .int i, k, h => by simp only [keyOf] at h; cases h; simp [NestedKey.data]
  | .str x, k, h => by simp only [keyOf] at h; cases h; simp [NestedKey.data]
  | .tuple ds, k, h => by
    simp only [keyOf] at h
    obtain ⟨ks, e, rfl⟩ := Option.map_eq_some_iff.mp h
    simp only [NestedKey.data]
    rw [keysOf_data e]
  | .bool _, k, h => by simp [keyOf] at h
  | .list _, k, h => by simp [keyOf] at h
  | .dict _, k, h => by simp [keyOf] at h
theorem keysOf_data : ∀ {ds : List PyData} {ks : List NestedKey}, keysOf ds = some ks → NestedKey.datas ks = ds
  | [], ks, h => by simp only [keysOf] at h; cases h; simp [NestedKey.datas]
  | d :: ds, ks, h => by
    simp only [keysOf] at h
    split at h
    · rename_i k ks' e1 e2
      cases h
      simp only [NestedKey.datas]
      rw [keyOf_data e1, keysOf_data e2]
    · cases h
end
mutual
theorem keyOf_of_data : ∀ k : NestedKey, keyOf k.data = some k
  | .none => by simp [NestedKey.data, keyOf]
  | .num i => by simp [NestedKey.data, keyOf]
  | .text x => by simp [NestedKey.data, keyOf]
  | .tup ks => by simp only [NestedKey.data, keyOf]; rw [keysOf_of_datas ks]; rfl
theorem keysOf_of_datas : ∀ ks : List NestedKey, keysOf (NestedKey.datas ks) = some ks
  | [] => by simp [NestedKey.datas, keysOf]
  | k :: ks => by simp only [NestedKey.datas, keysOf]; rw [keyOf_of_data k, keysOf_of_datas ks]
end
section
variable {X : Cx} {pins : List (Addr × Obj)} {σ : L2.St} {H : Hp} {s : Shared}
mutual
theorem nested_of (I : Inv X pins σ H s) : ∀ {d : PyData} {v : V} {u : Value} {k : NestedKey}, Rp X.kw H v d → RelV v u → keyOf d = some k → NestedIs s.heap k u
  | .none, v, u, k, h, r, e => by
    simp only [keyOf] at e
    cases e; cases h; cases r; exact .none
  | .int i, v, u, k, h, r, e => by
    simp only [keyOf] at e
    cases e; cases h
    obtain ⟨t, rfl⟩ := r
    exact .int i t
  | .str x, v, u, k, h, r, e => by
    simp only [keyOf] at e
    cases e; cases h
    obtain ⟨t, rfl⟩ := r
    exact .text x t
  | .tuple ds, v, u, k, h, r, e => by
    simp only [keyOf] at e
    obtain ⟨ks, e1, rfl⟩ := Option.map_eq_some_iff.mp e
    cases h with
    | tup hs ra =>
      cases r
      obtain ⟨its, rv, ⟨o, ho, hc, n, hd⟩, _⟩ := I.tuple hs
      exact .tup ho hc hd (by simpa using nested_all I ra rv e1)
  | .bool _, v, u, k, h, r, e => by simp [keyOf] at e
  | .list _, v, u, k, h, r, e => by simp [keyOf] at e
  | .dict _, v, u, k, h, r, e => by simp [keyOf] at e
theorem nested_all (I : Inv X pins σ H s) : ∀ {ds : List PyData} {vs : List V} {us : List Value} {ks : List NestedKey}, RpA X.kw H vs ds → Vals vs us → keysOf ds = some ks → NestedAll s.heap ks us
  | [], vs, us, ks, h, r, e => by
    simp only [keysOf] at e
    cases e; cases h; cases r; exact .nil
  | d :: ds, vs, us, ks, h, r, e => by
    simp only [keysOf] at e
    split at e
    · rename_i k ks' e1 e2
      cases e
      cases h with
      | cons h1 h2 =>
        cases r with
        | cons r1 r2 => exact .cons (nested_of I h1 r1 e1) (nested_all I h2 r2 e2)
    · cases e
end
end
/-! ### what a dict tells -/
def kLook : Kvs → NestedKey → Option PyData
  | [], _ => none
  | p :: r, k => if p.1 = k then some p.2 else kLook r k
def kPut : Kvs → NestedKey → PyData → Kvs
  | [], k, d => [(k, d)]
  | p :: r, k, d => if p.1 = k then (p.1, d) :: r else p :: kPut r k d
theorem kPut_keys : ∀ (kvs : Kvs) (k : NestedKey) (d : PyData), (kPut kvs k d).map (·.1) = if (kLook kvs k).isSome = true then kvs.map (·.1) else kvs.map (·.1) ++ [k]
  | [], k, d => by simp [kPut, kLook]
  | p :: r, k, d => by
    unfold kPut kLook
    by_cases e : p.1 = k
    · simp [e]
    · rw [if_neg e, if_neg e, List.map_cons, kPut_keys r k d]
      split <;> simp
theorem kLook_none : ∀ {kvs : Kvs} {k : NestedKey}, kLook kvs k = none → k ∉ kvs.map (·.1)
  | [], _, _ => by simp
  | p :: r, k, h => by
    unfold kLook at h
    by_cases e : p.1 = k
    · rw [if_pos e] at h; cases h
    · rw [if_neg e] at h
      simp only [List.map_cons, List.mem_cons, not_or]
      exact ⟨fun z => e z.symm, kLook_none h⟩
theorem kPut_nodup {kvs : Kvs} {k : NestedKey} {d : PyData} (h : (kvs.map (·.1)).Nodup) : ((kPut kvs k d).map (·.1)).Nodup := by
  rw [kPut_keys]
  split
  · exact h
  · rename_i q
    have hn : kLook kvs k = none := by
      cases e : kLook kvs k with
      | none => rfl
      | some _ => rw [e] at q; exact absurd rfl q
    rw [List.nodup_append]
    refine ⟨h, by simp, fun a ha b hb e => ?_⟩
    have : b = k := by simpa using hb
    subst e; subst this
    exact kLook_none hn ha
theorem kPut_length (kvs : Kvs) (k : NestedKey) (d : PyData) : (kPut kvs k d).length ≤ kvs.length + 1 := by
  induction kvs with
  | nil => simp [kPut]
  | cons p r ih => unfold kPut; split <;> simp; omega
section
variable {K : KW} {H : Hp}
theorem ents_look : ∀ {xs : List Ent} {kvs : Kvs} {k : NestedKey}, Ents K H xs kvs → (kLook kvs k = none → findK xs k = none) ∧ ∀ d, kLook kvs k = some d → ∃ x, findK xs k = some x ∧ ∃ vd, RelV vd x.2.2 ∧ Rp K H vd d
  | [], _, _, .nil => ⟨fun _ => rfl, fun d h => by cases h⟩
  | x :: xs, p :: r, k, .cons e t => by
    obtain ⟨ih1, ih2⟩ := ents_look (k := k) t
    by_cases h : p.1 = k
    · have hx : x.1 = k := e.key.trans h
      refine ⟨fun q => ?_, fun d q => ?_⟩
      · unfold kLook at q; rw [if_pos h] at q; cases q
      · unfold kLook at q; rw [if_pos h] at q; cases q
        exact ⟨x, by unfold findK; rw [List.find?_cons, decide_eq_true hx], e.vrep⟩
    · have hx : ¬ x.1 = k := fun z => h (e.key.symm.trans z)
      have ef : findK (x :: xs) k = findK xs k := by unfold findK; rw [List.find?_cons, decide_eq_false hx]
      rw [ef]
      unfold kLook
      rw [if_neg h]
      exact ⟨ih1, ih2⟩
theorem putE_skip {xs : List Ent} {k : NestedKey} {v : Value} (h : ∀ x ∈ xs, x.1 ≠ k) : xs.map (putE k v) = xs := by
  refine (List.map_congr_left fun z hz => ?_).trans (List.map_id xs)
  unfold putE
  rw [if_neg (h z hz)]
  rfl
theorem ents_put {v kv : Value} {vk vd : V} {k : NestedKey} {d : PyData} (hk8 : k.depth ≤ 8) (r1 : RelV vk kv) (p1 : Rp K H vk k.data) (r2 : RelV vd v) (p2 : Rp K H vd d) : ∀ {xs : List Ent} {kvs : Kvs}, Ents K H xs kvs → (kvs.map (·.1)).Nodup → Ents K H (storeE xs k kv v) (kPut kvs k d)
  | [], _, .nil, _ => by
    show Ents K H [(k, kv, v)] [(k, d)]
    exact .cons ⟨rfl, hk8, ⟨vk, r1, p1⟩, ⟨vd, r2, p2⟩⟩ .nil
  | x :: xs, p :: r, .cons e t, nd => by
    rw [List.map_cons, List.nodup_cons] at nd
    have ih := ents_put hk8 r1 p1 r2 p2 t nd.2
    by_cases h : p.1 = k
    · have hx : x.1 = k := e.key.trans h
      have sk : xs.map (putE k v) = xs := putE_skip fun y hy z => by
        obtain ⟨q, hq, eq⟩ : ∃ q ∈ r, y.1 = q.1 := by
          have : ∀ {l : List Ent} {m : Kvs}, Ents K H l m → ∀ y ∈ l, ∃ q ∈ m, y.1 = q.1 := by
            intro l m t
            induction t with
            | nil => intro y hy; cases hy
            | @cons a b as bs e t ih =>
              intro y hy
              rcases List.mem_cons.mp hy with rfl | hy
              · exact ⟨b, by simp, e.key⟩
              · obtain ⟨q, hq, eq⟩ := ih y hy
                exact ⟨q, by simp [hq], eq⟩
          exact this t y hy
        exact nd.1 (List.mem_map.mpr ⟨q, hq, by rw [← eq, z, h]⟩)
      have ef : findK (x :: xs) k = some x := by unfold findK; rw [List.find?_cons, decide_eq_true hx]
      unfold storeE kPut
      rw [ef, if_pos (show (some x).isSome = true from rfl), if_pos h, List.map_cons, sk]
      refine .cons ?_ t
      unfold putE
      rw [if_pos hx]
      exact ⟨e.key, e.small, e.krep, ⟨vd, r2, p2⟩⟩
    · have hx : ¬ x.1 = k := fun z => h (e.key.symm.trans z)
      have ef : findK (x :: xs) k = findK xs k := by unfold findK; rw [List.find?_cons, decide_eq_false hx]
      have es : storeE (x :: xs) k kv v = x :: storeE xs k kv v := by
        unfold storeE
        rw [ef]
        split
        · rw [List.map_cons]
          congr 1
          unfold putE
          rw [if_neg hx]
        · rfl
      rw [es]
      unfold kPut
      rw [if_neg h]
      exact .cons e ih
end
/-- the key of a value -/
def KeyV (K : KW) (H : Hp) (v : V) (k : NestedKey) : Prop := k.depth ≤ 8 ∧ Rp K H v k.data
section
variable {X : Cx} {pins : List (Addr × Obj)} {σ : L2.St} {H : Hp} {s : Shared}
theorem KeyV.nested {v : V} {u : Value} {k : NestedKey} (h : KeyV X.kw H v k) (I : Inv X pins σ H s) (r : RelV v u) : NestedIs s.heap k u := nested_of I h.2 r (keyOf_of_data k)
theorem dict_at {v : V} {kvs : Kvs} (I : Inv X pins σ H s) (r : ownRep X.kw H v (.dct kvs)) : ∃ a xs, v = .ref a ∧ (a == sysModules) = false ∧ H a = some (.ext (rawDict a (xs.map (entOf X.w)))) ∧ DictA X.w s.heap a xs ∧ Ents X.kw H xs kvs ∧ (kvs.map (·.1)).Nodup ∧ kvs.length ≤ sizeLine ∧ xs.length ≤ sizeLine := by
  obtain ⟨a, xs, rfl, e, en, nd, hl⟩ := r
  obtain ⟨⟨h0, o, ep, h1, h2, h3⟩, _, _⟩ := I.hok a _ e
  have ln : xs.length = kvs.length := Paired.length en
  refine ⟨a, xs, rfl, h0, e, ⟨⟨o, _, ep, h1, h2, h3, by simp⟩, ?_, ?_⟩, en, nd, hl, by omega⟩
  · have : ∀ {l : List Ent} {m : Kvs}, Ents X.kw H l m → ∀ x ∈ l, NestedIs s.heap x.1 x.2.1 ∧ x.1.depth ≤ 8 := by
      intro l m t
      induction t with
      | nil => intro x hx; cases hx
      | @cons a b as bs e t ih =>
        intro x hx
        rcases List.mem_cons.mp hx with rfl | hx
        · obtain ⟨vk, rk, pk⟩ := e.krep
          rw [e.key]
          exact ⟨nested_of I pk rk (keyOf_of_data _), e.small⟩
        · exact ih x hx
    exact this en
  · have : ∀ {l : List Ent} {m : Kvs}, Ents X.kw H l m → l.map (·.1) = m.map (·.1) := by
      intro l m t
      induction t with
      | nil => rfl
      | @cons a b as bs e t ih => rw [List.map_cons, List.map_cons, e.key, ih]
    rw [this en]
    exact nd
theorem rawDict_ok {P : Program} {w : World} {H' : Hp} {h' : Heap} {a : Addr} {xs : List Ent} (ha : (a == sysModules) = false) (m : DictA w h' a xs) : ObjOk P w H' h' a (.ext (rawDict a (xs.map (entOf w)))) := by
  obtain ⟨o, es, ep, h1, h2, h3, h4⟩ := m.ob
  have e : es = (xs.map (entOf w)).toArray := by rw [← h4]
  refine ⟨⟨ha, o, ep, h1, h2, by rw [← e]; exact h3⟩, ⟨o, h1⟩, fun g1 g2 hg k => ?_⟩
  obtain ⟨z, o', ep', q1, q2, q3⟩ := hg
  exact ⟨z, o', ep', k o' q1, q2, q3⟩
/-- the dict at a is written -/
theorem dict_write {a : Addr} {xs xs' : List Ent} {h' : Heap} {t' : Nat} (I : Inv X pins σ H s) (e : H a = some (.ext (rawDict a (xs.map (entOf X.w))))) (ha : (a == sysModules) = false) (sb : Heap.SameBut a s.heap h') (m : DictA X.w h' a xs') :
    Inv X pins σ (upd H a (.ext (rawDict a (xs'.map (entOf X.w))))) { s with heap := h', toks := t' } :=
  I.write (x := a) (e := a) (by rw [e]; trivial) (.inl rfl) (fun b u hb z => (sb.2 b hb).trans z) (let ⟨o, _, _, h1, _⟩ := m.ob; ⟨o, h1⟩) (rawDict_ok ha m)
end
/-! ### the operations by values -/
def rDIn (K : KW) (n : Bool) : R2 := fun x y H Q => ∃ kvs k, ownRep K H y (.dct kvs) ∧ KeyV K H x k ∧ Q (.bl (if n then !(kLook kvs k).isSome else (kLook kvs k).isSome)) H
def tDIx (K : KW) (td ty : TE) : TE := fun σ H Q => td σ H fun x H1 => ty σ H1 fun y H2 => ∃ kvs k d, ownRep K H2 x (.dct kvs) ∧ KeyV K H2 y k ∧ kLook kvs k = some d ∧ ∀ v, Rp K H2 v d → Q v H2
/-- what a store may leave -/
def Stored (K : KW) (H : Hp) (x y z : V) (kvs : Kvs) (k : NestedKey) (d : PyData) (H' : Hp) : Prop := ∃ (a : Addr) (xs xs' : List Ent), x = .ref a ∧ H a = some (.ext (rawDict a (xs.map (entOf K.w)))) ∧ H' = upd H a (.ext (rawDict a (xs'.map (entOf K.w)))) ∧ Ents K H xs' (kPut kvs k d)
def rDPut (K : KW) : V → V → V → Hp → (Hp → Prop) → Prop := fun o i v H Q => ∃ kvs k d, ownRep K H o (.dct kvs) ∧ KeyV K H i k ∧ Rp K H v d ∧ (kPut kvs k d).length ≤ sizeLine ∧ ∀ H', Stored K H o i v kvs k d H' → Q H'
def tDG1 (K : KW) (td ty : TE) : TE := fun σ H Q => td σ H fun x H1 => (∃ kvs, ownRep K H1 x (.dct kvs)) ∧ ty σ H1 fun y H2 => ∃ kvs k, ownRep K H2 x (.dct kvs) ∧ KeyV K H2 y k ∧ (kLook kvs k = none → Q .non H2) ∧ ∀ d, kLook kvs k = some d → ∀ v, Rp K H2 v d → Q v H2
def tDG2 (K : KW) (td ty tz : TE) : TE := fun σ H Q => td σ H fun x H1 => (∃ kvs, ownRep K H1 x (.dct kvs)) ∧ ty σ H1 fun y H2 => tz σ H2 fun z H3 => ∃ kvs k, ownRep K H3 x (.dct kvs) ∧ KeyV K H3 y k ∧ (kLook kvs k = none → Q z H3) ∧ ∀ d, kLook kvs k = some d → ∀ v, Rp K H3 v d → Q v H3
def tDSd (K : KW) (td ty tz : TE) : TE := fun σ H Q => td σ H fun x H1 => (∃ kvs, ownRep K H1 x (.dct kvs)) ∧ ty σ H1 fun y H2 => tz σ H2 fun z H3 => ∃ kvs k d, ownRep K H3 x (.dct kvs) ∧ KeyV K H3 y k ∧ Rp K H3 z d ∧ (kPut kvs k d).length ≤ sizeLine ∧
  (kLook kvs k = none → ∀ H', Stored K H3 x y z kvs k d H' → Q z H') ∧ ∀ d', kLook kvs k = some d' → ∀ v, Rp K H3 v d' → Q v H3
def tDNewA (w : World) : TE := fun _ H Q => ∀ p, H p = none → Q (.ref p) (upd H p (.ext (rawDict p (([] : List Ent).map (entOf w)))))
section
variable {X : Cx} {o i e f : Expr} {pos apos cpos : Pos} {td ty tz : TE}
theorem op_dIn (hu : X.A.units + 9 < cLine) : OpR X (compareOp .In) (rDIn X.kw false) := by
  intro pins s σ H x y v u Q I rx ry ⟨kvs, k, rep, kv, q⟩
  obtain ⟨a, xs, rfl, ha, he, m, en, nd, hl, hx⟩ := dict_at I rep
  cases ry
  refine any_in hu (kv.nested I rx) kv.1 ha m ⟨.bl _, H, I.tok _, rfl, ?_⟩
  have := ents_look (k := k) en
  cases q0 : kLook kvs k with
  | none => rw [this.1 q0]; rw [q0] at q; exact q
  | some d => obtain ⟨x, ex, _⟩ := this.2 d q0; rw [ex]; rw [q0] at q; exact q
theorem op_dNotIn (hu : X.A.units + 9 < cLine) : OpR X (compareOp .NotIn) (rDIn X.kw true) := by
  intro pins s σ H x y v u Q I rx ry ⟨kvs, k, rep, kv, q⟩
  obtain ⟨a, xs, rfl, ha, he, m, en, nd, hl, hx⟩ := dict_at I rep
  cases ry
  refine any_notIn hu (kv.nested I rx) kv.1 ha m ⟨.bl _, H, I.tok _, rfl, ?_⟩
  have := ents_look (k := k) en
  cases q0 : kLook kvs k with
  | none => rw [this.1 q0]; rw [q0] at q; exact q
  | some d => obtain ⟨x, ex, _⟩ := this.2 d q0; rw [ex]; rw [q0] at q; exact q
theorem pe_dIx (hu : X.A.units + 9 < cLine) (ho : PE X o td) (hi : PE X i ty) (hs : NoSl i) : PE X (.Subscript o i pos) (tDIx X.kw td ty) := by
  refine ⟨fun pins s σ H Q I h => ?_⟩
  refine subD_of PySem.F.slot_dict_getitem.lookup hs (thn (ho.run pins s σ H _ I h) fun u s1 ⟨x, H1, I1, rx, q1⟩ => thn (hi.run pins s1 σ H1 _ I1 q1) fun iv s2 ⟨y, H2, I2, ry, kvs, k, d, rep, kv, lk, q2⟩ => ?_)
  obtain ⟨a, xs, rfl, ha, he, m, en, nd, hl, hx⟩ := dict_at I2 rep
  cases rx
  obtain ⟨z, ez, vd, rz, pz⟩ := (ents_look (k := k) en).2 d lk
  exact ⟨m.typeIs, any_getItem hu (kv.nested I2 ry) kv.1 m ez ⟨vd, H2, I2.tok _, rz, q2 vd pz⟩⟩
theorem stored_at {H : Hp} {a : Addr} {xs : List Ent} {kvs : Kvs} {k : NestedKey} {y z : V} {u r : Value} {d : PyData} (en : Ents X.kw H xs kvs) (nd : (kvs.map (·.1)).Nodup) (he : H a = some (.ext (rawDict a (xs.map (entOf X.w))))) (kv : KeyV X.kw H y k) (ry : RelV y u) (rz : RelV z r) (pz : Rp X.kw H z d) :
    Stored X.kw H (.ref a) y z kvs k d (upd H a (.ext (rawDict a ((storeE xs k u r).map (entOf X.w))))) := ⟨a, xs, storeE xs k u r, rfl, he, rfl, ents_put kv.1 ry kv.2 rz pz en nd⟩
theorem set_dict (hu : X.A.units + 9 < cLine) : PSet X (rDPut X.kw) := by
  intro pins s σ H ov iv zv o u r Q I ro ri rz ⟨kvs, k, d, rep, kv, pz, hz, q⟩
  obtain ⟨a, xs, rfl, ha, he, m, en, nd, hl, hx⟩ := dict_at I rep
  cases ro
  exact any_setItem hu (kv.nested I ri) kv.1 m hx fun h' m' sb => ⟨_, dict_write I he ha sb m', q _ (stored_at en nd he kv ri rz pz)⟩
theorem dict_ty {pins : List (Addr × Obj)} {σ : L2.St} {H : Hp} {s : Shared} {v : V} {u : Value} {kvs : Kvs} (I : Inv X pins σ H s) (r : ownRep X.kw H v (.dct kvs)) (ru : RelV v u) : s.TypeIs u "dict" ∧ ∀ b, u = .ref b → ∃ ob, s.heap.get? b = some ob ∧ ob.dict = none := by
  obtain ⟨a, xs, rfl, ha, he, m, en, nd, hl, hx⟩ := dict_at I r
  cases ru
  refine ⟨m.typeIs, fun b q => ?_⟩
  cases q
  obtain ⟨o, es, ep, h1, h2, _⟩ := m.ob
  exact ⟨o, h1, h2.2.1⟩
theorem pe_dG1 (hu : X.A.units + 9 < cLine) (ho : PE X o td) (he : PE X e ty) (m : M1 X o "get" apos e cpos) : PE X (.Call (.Attribute o "get" apos) [e] [] cpos) (tDG1 X.kw td ty) := by
  refine ⟨fun pins s σ H Q I h => ?_⟩
  refine wpAny_Call_method m.base m.few m.line PySem.F.plainAttrs_dict PySem.F.slot_dict_get PySem.F.type_dict_get (thn (ho.run pins s σ H _ I h) fun u s1 ⟨x, H1, I1, rx, ⟨kvs0, rep0⟩, q1⟩ => ?_)
  obtain ⟨t1, t2⟩ := dict_ty I1 rep0 rx
  refine ⟨t1, t2, ?_⟩
  rw [m.trees]
  refine Calls.callWith_builtin rfl (Calls.evalArgs_plain (Calls.spliced_cons (thn (he.run pins s1 σ H1 _ I1 q1) fun iv s2 ⟨y, H2, I2, ry, kvs, k, rep, kv, qn, qs⟩ => Calls.spliced_nil ?_)))
  obtain ⟨a, xs, rfl, ha, he, m, en, nd, hl, hx⟩ := dict_at I2 rep
  cases rx
  refine call_meetsIn PySem.F.slot_dict_get m.typeIs PySem.F.entry_dict_get (PySem.F.args_dict_get_2 _ _) (meets_get1 ha) ⟨hu, k, xs, kv.nested I2 ry, kv.1, m, ?_⟩
  have lk := ents_look (k := k) en
  cases q0 : kLook kvs k with
  | none => rw [lk.1 q0]; exact ⟨.non, H2, I2.tok _, rfl, qn q0⟩
  | some d => obtain ⟨z, ez, vd, rz, pz⟩ := lk.2 d q0; rw [ez]; exact ⟨vd, H2, I2.tok _, rz, qs d q0 vd pz⟩
theorem pe_dG2 (hu : X.A.units + 9 < cLine) (ho : PE X o td) (he : PE X e ty) (hf : PE X f tz) (m : M2 X o "get" apos e f cpos) : PE X (.Call (.Attribute o "get" apos) [e, f] [] cpos) (tDG2 X.kw td ty tz) := by
  refine ⟨fun pins s σ H Q I h => ?_⟩
  refine wpAny_Call_method m.base m.few m.line PySem.F.plainAttrs_dict PySem.F.slot_dict_get PySem.F.type_dict_get (thn (ho.run pins s σ H _ I h) fun u s1 ⟨x, H1, I1, rx, ⟨kvs0, rep0⟩, q1⟩ => ?_)
  obtain ⟨t1, t2⟩ := dict_ty I1 rep0 rx
  refine ⟨t1, t2, ?_⟩
  rw [m.trees]
  refine Calls.callWith_builtin rfl (Calls.evalArgs_plain (Calls.spliced_cons (thn (he.run pins s1 σ H1 _ I1 q1) fun iv s2 ⟨y, H2, I2, ry, q2⟩ => Calls.spliced_cons (thn (hf.run pins s2 σ H2 _ I2 q2) fun fv s3 ⟨z, H3, I3, rz, kvs, k, rep, kv, qn, qs⟩ => Calls.spliced_nil ?_))))
  obtain ⟨a, xs, rfl, ha, he, m, en, nd, hl, hx⟩ := dict_at I3 rep
  cases rx
  refine call_meetsIn PySem.F.slot_dict_get m.typeIs PySem.F.entry_dict_get (PySem.F.args_dict_get_3 _ _ _) (meets_get2 ha fv) ⟨hu, k, xs, kv.nested I3 ry, kv.1, m, ?_⟩
  have lk := ents_look (k := k) en
  cases q0 : kLook kvs k with
  | none => rw [lk.1 q0]; exact ⟨z, H3, I3.tok _, rz, qn q0⟩
  | some d => obtain ⟨z, ez, vd, rz, pz⟩ := lk.2 d q0; rw [ez]; exact ⟨vd, H3, I3.tok _, rz, qs d q0 vd pz⟩
theorem pe_dSd (hu : X.A.units + 9 < cLine) (ho : PE X o td) (he : PE X e ty) (hf : PE X f tz) (m : M2 X o "setdefault" apos e f cpos) : PE X (.Call (.Attribute o "setdefault" apos) [e, f] [] cpos) (tDSd X.kw td ty tz) := by
  refine ⟨fun pins s σ H Q I h => ?_⟩
  refine wpAny_Call_method m.base m.few m.line PySem.F.plainAttrs_dict PySem.F.slot_dict_setdefault PySem.F.type_dict_setdefault (thn (ho.run pins s σ H _ I h) fun u s1 ⟨x, H1, I1, rx, ⟨kvs0, rep0⟩, q1⟩ => ?_)
  obtain ⟨t1, t2⟩ := dict_ty I1 rep0 rx
  refine ⟨t1, t2, ?_⟩
  rw [m.trees]
  refine Calls.callWith_builtin rfl (Calls.evalArgs_plain (Calls.spliced_cons (thn (he.run pins s1 σ H1 _ I1 q1) fun iv s2 ⟨y, H2, I2, ry, q2⟩ => Calls.spliced_cons (thn (hf.run pins s2 σ H2 _ I2 q2) fun fv s3 ⟨z, H3, I3, rz, kvs, k, d, rep, kv, pz, hz, qn, qs⟩ => Calls.spliced_nil ?_))))
  obtain ⟨a, xs, rfl, ha, he, m, en, nd, hl, hx⟩ := dict_at I3 rep
  cases rx
  have lk := ents_look (k := k) en
  refine call_meetsIn PySem.F.slot_dict_setdefault m.typeIs PySem.F.entry_dict_setdefault (PySem.F.args_dict_setdefault_3 _ _ _) (meets_setdef ha fv) ⟨hu, k, xs, kv.nested I3 ry, kv.1, m, hx, fun x0 hx0 => ?_, fun hn h' m' sb => ?_⟩
  · cases q0 : kLook kvs k with
    | none => rw [lk.1 q0] at hx0; cases hx0
    | some d' =>
      obtain ⟨x1, ex1, vd, rd, pd⟩ := lk.2 d' q0
      rw [hx0] at ex1
      cases ex1
      exact ⟨vd, H3, I3.tok _, rd, qs d' q0 vd pd⟩
  · cases q0 : kLook kvs k with
    | some d' =>
      obtain ⟨x1, ex1, _⟩ := lk.2 d' q0
      rw [hn] at ex1
      cases ex1
    | none => exact ⟨z, _, dict_write I3 he ha sb m', rz, qn q0 _ (stored_at en nd he kv ry rz pz)⟩
theorem new_dict {w : World} {h : Heap} : DictA w (h.push { cls := .type "dict", data := .dict #[] }) h.objs.size [] :=
  ⟨⟨_, #[], 0, Heap.get?_push_size _ rfl, ⟨rfl, rfl, rfl⟩, rfl, rfl⟩, fun x hx => by simp at hx, List.nodup_nil⟩
theorem pe_dNewA : PE X (.Dict [] [] pos) (tDNewA X.w) := ⟨fun pins s σ H Q I h =>
  wpAny_Dict_empty ⟨.ref s.heap.objs.size, _, I.laid (a := s.heap.objs.size) (t' := s.toks) (fun _ _ q => Heap.get?_push_of_some _ q) (Nat.le_refl _) (rawDict_ok (beq_eq_false_iff_ne.mpr (Ne.symm (Nat.ne_of_lt I.big))) new_dict), rfl, h _ (I.hok.fresh (Nat.le_refl _))⟩⟩
end
end Vx
/-! Vx12: powers, a number times a bool, chains of two comparisons, xs[::-1]; own dicts by their slots. -/
namespace Vx
open PySem PySem.Spec L2

/-! ### numbers -/
def gMulA : D2
  | .int i, .int j => if (-(2 ^ 64) < i ∧ i < 2 ^ 64) ∨ (-(2 ^ 64) < j ∧ j < 2 ^ 64) then some (.int (i * j)) else none
  | .int i, .bool b => some (.int (i * if b = true then 1 else 0))
  | _, _ => none
def gPow : D2
  | .int i, .int j => if 0 ≤ j ∧ j ≤ 1000000 ∧ i.natAbs < 2 ^ 64 then some (.int (i ^ j.toNat)) else none
  | _, _ => none
def rMulB : R2 := fun x y H Q => ∃ (i : Int) (b : Bool), x = .int i ∧ y = .bl b ∧ Q (.int (i * if b = true then 1 else 0)) H
section
variable {X : Cx}
theorem op_mulB : OpR X (binaryOp .Mult) rMulB := by
  intro pins s σ H x y v u Q I rx ry ⟨i, b, ex, ey, q⟩
  subst ex ey
  obtain ⟨t, rfl⟩ := rx
  cases ry
  exact IntBool.mul_int_bool ⟨.int _, H, I.tok _, ⟨_, rfl⟩, q⟩
end
theorem opd_mulA {K : KW} : OpD K (fun x y H Q => rI CMul (fun i j => .int (i * j)) x y H Q ∨ rMulB x y H Q) gMulA := by
  intro x y H a b d Q z ba bb e k
  unfold gMulA at e
  split at e
  · split at e
    · rename_i h
      cases e
      exact .inl ⟨_, _, ba.int, bb.int, h, k _ H (Same.refl _) (.inl (.int _))⟩
    · cases e
  · cases e
    exact .inr ⟨_, _, ba.int, bb.bool, k _ H (Same.refl _) (.inl (.int _))⟩
  · cases e
theorem opd_pow {K : KW} : OpD K (rI CPow fun i j => .int (i ^ j.toNat)) gPow := by
  intro x y H a b d Q z ba bb e k
  unfold gPow at e
  split at e
  · split at e
    · rename_i h
      cases e
      exact ⟨_, _, ba.int, bb.int, h, k _ H (Same.refl _) (.inl (.int _))⟩
    · cases e
  · cases e
/-- an operation that leaves the heap as it is -/
def OpC (K : KW) (r : R2) (g : D2) : Prop := ∀ (x y : V) (H : Hp) (a b d : PyData) (Q : VK), Bq K H x a → Bq K H y b → g a b = some d → (∀ v, Rp K H v d → Q v H) → r x y H Q
theorem opc_cmp {K : KW} {g : D2} {p : Int → Int → Bool} {q : Str → Str → Bool} (h : ∀ a b d, g a b = some d → (∃ i j, a = .int i ∧ b = .int j ∧ d = .bool (p i j)) ∨ ∃ x y, a = .str x ∧ b = .str y ∧ d = .bool (q x y)) :
    OpC K (rCmpA (fun i j => .bl (p i j)) q) g := by
  intro x y H a b d Q ba bb e k
  rcases h a b d e with ⟨i, j, rfl, rfl, rfl⟩ | ⟨u, v, rfl, rfl, rfl⟩
  · exact .inl ⟨i, j, ba.int, bb.int, k _ (.bl _)⟩
  · exact .inr ⟨u, v, ba.str, bb.str, k _ (.bl _)⟩
theorem opc_lt {K : KW} : OpC K (rCmpA (fun i j => .bl (decide (i < j))) fun i j => decide (i.cps.toList < j.cps.toList)) gLt := opc_cmp (p := fun i j => decide (i < j)) fun a b d e => by
  unfold gLt at e
  split at e
  · cases e; exact .inl ⟨_, _, rfl, rfl, rfl⟩
  · cases e; exact .inr ⟨_, _, rfl, rfl, rfl⟩
  · cases e
theorem opc_le {K : KW} : OpC K (rCmpA (fun i j => .bl (decide (i ≤ j))) fun i j => !decide (j.cps.toList < i.cps.toList)) gLe := opc_cmp (p := fun i j => decide (i ≤ j)) fun a b d e => by
  unfold gLe at e
  split at e
  · cases e; exact .inl ⟨_, _, rfl, rfl, rfl⟩
  · cases e; exact .inr ⟨_, _, rfl, rfl, rfl⟩
  · cases e
section
variable {X : Cx} {e a b c o : Expr} {pos : Pos} {ma mb mc mk mz : EM}
theorem re_chain {op op' : CmpOp} {r r' : R2} {g g' : D2} (ho : OpR X (compareOp op) r) (hd : OpC X.kw r g) (ho' : OpR X (compareOp op') r') (hd' : OpC X.kw r' g') (ha : RE X a ma) (hb : RE X b mb) (hc : RE X c mc) (hm : lastMarks [op, op'] [b, c] = false := by with_unfolding_all rfl) :
    RE X (.Compare a [op, op'] [b, c] pos) (dChain g g' ma mb mc) := by
  refine pem (pe_chain ho ho' ha hb hc hm) fun σ H Q ⟨ρ, r', ρ', hh, em, k⟩ => ?_
  obtain ⟨⟨ra, ρ1⟩, e1, em⟩ := Option.bind_eq_some_iff.mp em
  obtain ⟨⟨rb, ρ2⟩, e2, em⟩ := Option.bind_eq_some_iff.mp em
  obtain ⟨da, e3, em⟩ := Option.bind_eq_some_iff.mp em
  obtain ⟨db, e4, em⟩ := Option.bind_eq_some_iff.mp em
  dsimp only at em
  split at em
  · rename_i kk ek
    refine ⟨ρ, ra, ρ1, hh, e1, fun x H1 s1 ok1 => ⟨ρ1, rb, ρ2, s1.hold, e2, fun y H2 s2 ok2 => ?_⟩⟩
    refine hd x y H2 da db _ _ (rd_bq s2.hold (ok1.stb s2.stb) e3) (rd_bq s2.hold ok2 e4) ek fun v rv => ?_
    cases rv
    refine ⟨kk, rfl, ?_⟩
    cases kk with
    | false =>
      simp only [Bool.false_eq_true, if_false] at em ⊢
      cases em
      exact k _ H2 (s1.trans s2) (.bl false)
    | true =>
      simp only [if_true] at em ⊢
      obtain ⟨⟨rc, ρ3⟩, e5, em⟩ := Option.bind_eq_some_iff.mp em
      obtain ⟨db', e6, em⟩ := Option.bind_eq_some_iff.mp em
      obtain ⟨dc, e7, em⟩ := Option.bind_eq_some_iff.mp em
      obtain ⟨d, e8, em⟩ := Option.map_eq_some_iff.mp em
      cases em
      refine ⟨ρ2, rc, _, s2.hold, e5, fun w H3 s3 ok3 => ?_⟩
      exact hd' y w H3 db' dc d _ (rd_bq s3.hold (ok2.stb s3.stb) e6) (rd_bq s3.hold ok3 e7) e8 fun v rv => k v H3 (s1.trans (s2.trans s3)) rv
  · cases em
/-! ### xs[::-1] -/
theorem tup_rev_pick (xs : Array Value) : ((List.range xs.size).filterMap fun (k : Nat) => xs[(((xs.size : Int) - 1) + (k : Int) * (-1)).toNat]?) = xs.toList.reverse := by
  apply List.ext_getElem?
  intro i
  have hall : ∀ n, n ≤ xs.size → (List.range n).filterMap (fun (k : Nat) => xs[(((xs.size : Int) - 1) + (k : Int) * (-1)).toNat]?) = xs.toList.reverse.take n := by
    intro n
    induction n with
    | zero => intro _; simp
    | succ n ih =>
      intro hn
      rw [List.range_succ, List.filterMap_append, ih (by omega), List.take_add_one]
      congr 1
      have h1 : (((xs.size : Int) - 1) + (n : Int) * (-1)).toNat = xs.size - 1 - n := by omega
      simp only [List.filterMap_cons, List.filterMap_nil, h1]
      rw [List.getElem?_reverse (by rw [Array.length_toList]; omega)]
      simp only [Array.length_toList, Array.getElem?_toList]
      rw [Array.getElem?_eq_getElem (by omega)]
      rfl
  rw [hall xs.size (Nat.le_refl _), List.take_of_length_le (by simp)]
end
section
variable {prog : Program} {w : World} {A : Around} {E : Value → Shared → Prop} {s : Shared}
open PyProof.Rows in
theorem getItem_tuple_rev {t sl : Addr} {items : Array Value} {vs : Value} {Q : Value → Shared → Prop} (ht : PyProof.Rows.IsTup s.heap t items) (hs : s.heap.IsSliceOf sl .none .none vs) (ps : IsPart vs (some (-1))) (hz : items.size ≤ sizeLine)
    (h : Q (.ref s.heap.objs.size) { s with heap := s.heap.push { cls := .type "tuple", data := .seq items.toList.reverse.toArray } }) : wpAny (model prog w) A (getItem (.ref t) (.ref sl)) Q E s := by
  obtain ⟨os, hos, hcs, hds⟩ := id hs
  have hty : s.TypeIs (.ref sl) "slice" := ⟨os, hos, hcs⟩
  have hrz : sizeOk (.seq items.toList.reverse.toArray) := by
    show items.toList.reverse.toArray.size ≤ sizeLine
    simpa using hz
  unfold getItem
  try with_reducible refine wpAny_holding ?_
  first | refine wpAny_bind (wpAny_pure ?_) | skip
  refine wpAny_bind (wpAny_sequenceKey ht.typeIs (by decide) ?_)
  refine wpAny_bind (wpAny_callSpecial?_slot (name := Str.ofString "__getitem__") ht.typeIs PyProof.Rows.slot_tuple_getitem (wpAny_call_entry PyProof.Rows.slot_tuple_getitem ht.typeIs PyProof.Rows.entry_tuple_getitem ?_ (PyProof.Rows.args_tuple_getitem _ _)))
  show wpAny _ _ (Builtin.Tuple.tupleItemsOf (.ref t) >>= _) _ _ s
  refine wpAny_bind (PyProof.Rows.tupleItemsOf_ ht ?_)
  refine wpAny_bind (wpAny_typeOf hty ?_)
  rw [if_pos (by decide)]
  have key : ∀ A : Around, wpAny (model prog w) A (Builtin.Slice.sliceApplied (.ref sl) (pure (items.size : Int))) (fun r s' => r = (((items.size : Int) - 1), -1, items.size) ∧ s' = s) (fun _ _ => False) s := fun A => by
    unfold Builtin.Slice.sliceApplied Builtin.Slice.sliceFields
    refine wpAny_bind (wpAny_bind (wpAny_field hos hds (x := .none) rfl (wpAny_bind (wpAny_field hos hds (x := .none) rfl (wpAny_bind (wpAny_field hos hds (x := vs) rfl (wpAny_pure ?_)))))))
    refine wpAny_bind (HT.slicePart_ ps ?_)
    show wpAny _ _ (if ((-1 : Int) == 0) = true then _ else _) _ _ s
    rw [if_neg (by decide)]
    refine wpAny_bind (slicePart_none (wpAny_bind (slicePart_none (wpAny_bind (wpAny_pure ?_)))))
    refine wpAny_pure ⟨?_, rfl⟩
    have hp : Builtin.Slice.slicePlaces ((items.size : Int) - 1) (-1) (-1) = items.size := by
      unfold Builtin.Slice.slicePlaces
      have h1 : ¬ ((-1 : Int) > 0) := by omega
      have h2 : -(-1 : Int) = 1 := rfl
      simp only [h1, if_false, h2, Int.ediv_one]
      split <;> omega
    show (((items.size : Int) - 1), (-1 : Int), Builtin.Slice.slicePlaces ((items.size : Int) - 1) (-1) (-1)) = _
    rw [hp]
  refine wpAny_bind (wpAny_mono (key _) (fun r s1 hr => ?_) fun _ _ z => False.elim z)
  obtain ⟨er, es⟩ := hr
  subst er es
  have hno : ¬ ((((items.size : Int) - 1) == 0 && (-1 : Int) == 1 && items.size == items.size) = true) := by
    rw [show ((-1 : Int) == 1) = false from rfl]
    simp
  show wpAny _ _ (if (((items.size : Int) - 1) == 0 && (-1 : Int) == 1 && items.size == items.size) = true then _ else _) _ _ _
  rw [if_neg hno, tup_rev_pick]
  first
    | exact wpAny_bind (m := Builtin.Tuple.tupleExact _) (wpAny_newObj_type (wpAny_pure ⟨_, rfl, wpAny_pure h⟩) hrz)
    | exact wpAny_bind (m := Builtin.Tuple.tupleExact _) (wpAny_newObj_type (wpAny_bind (wpAny_pure (wpAny_pure ⟨_, rfl, wpAny_pure h⟩))) hrz)
    | exact wpAny_bind (wpAny_bind (m := Builtin.Tuple.tupleExact _) (wpAny_newObj_type (wpAny_pure (wpAny_pure ⟨_, rfl, wpAny_pure h⟩)) hrz))
    | exact wpAny_bind (wpAny_bind (m := Builtin.Tuple.tupleExact _) (wpAny_newObj_type (wpAny_pure ⟨_, rfl, wpAny_pure h⟩) hrz))
end
section
variable {X : Cx} {e a b c o : Expr} {pos : Pos} {ma mb mc mk mz : EM}
def tRevT (K : PySem.W.Frag) (te : TE) : TE := fun σ H Q => te σ H fun x H1 => ∃ a xs, x = .ref a ∧ SqT K H1 a xs ∧ ∀ p, H1 p = none → Q (.ref p) (upd H1 p (.tup xs.reverse))
theorem pe_revT {te : TE} {k : Nat} {p1 p2 p3 : Pos} (he : PE X e te) : PE X (.Subscript e (.Slice none none (some (.UnaryOp .USub (.Constant (.int 1) k p1) p2)) p3) pos) (tRevT X.K te) := by
  refine ⟨fun pins s σ H Q I h => ?_⟩
  refine PyProof.Rows.Subscript_ (thn (he.run pins s σ H _ I h) fun v s1 ⟨x, H1, I1, r1, a, xs, ex, hx, q⟩ => ?_)
  subst ex
  cases r1
  have hst : PO X (some (.UnaryOp .USub (.Constant (.int 1) k p1) p2)) (tPart (tUn (rU fun i => .int (-i)) (tC (.int 1)))) := po_some (pe_un un_neg pe_int)
  refine wpAny_Slice (thn (po_none.run pins s1 σ H1 (fun o H2 => o = none ∧ H2 = H1) I1 ⟨rfl, rfl⟩) fun vl s2 ⟨l, H2, I2, pl, el, e2⟩ => ?_)
  subst el e2
  refine thn (po_none.run pins s2 σ H2 (fun o H3 => o = none ∧ H3 = H2) I2 ⟨rfl, rfl⟩) fun vu s3 ⟨u, H3, I3, pu, eu, e3⟩ => ?_
  subst eu e3
  refine thn (hst.run pins s3 σ H3 (fun o H4 => o = some (-1) ∧ H4 = H3) I3 ⟨1, rfl, -1, rfl, rfl, rfl⟩) fun vs s4 ⟨oo, H4, I4, ps, eo, e4⟩ => ?_
  subst eo e4
  generalize hs5 : ({ s4 with heap := s4.heap.push { cls := .type "slice", data := .fields #[vl, vu, vs] } } : Shared) = s5
  have I5 : Inv X pins σ H4 s5 := by rw [← hs5]; exact I4.kept (t' := s4.toks) fun b ob q => Heap.get?_push_of_some _ q
  have hsl : s5.heap.IsSliceOf s4.heap.objs.size vl vu vs := by rw [← hs5]; exact Heap.IsSliceOf.new _ vl vu vs
  obtain ⟨its, r, ht, hz⟩ := I5.tuple hx
  have hlen := r.length
  show wpAny (model X.prog X.w) X.A (PyProof.Rows.subscriptTail e (.Slice none none (some (.UnaryOp .USub (.Constant (.int 1) k p1) p2)) p3) (.ref a) (.ref s4.heap.objs.size)) (EP X pins σ Q) X.xe s5
  refine PyProof.Rows.tail_any (ops := [.ref a, .ref s4.heap.objs.size]) ht.typeIs PyProof.Rows.slot_tuple_getitem.lookup ?_ (by with_unfolding_all rfl)
  have e1 : vl = .none := by cases pl; rfl
  have e2 : vu = .none := by cases pu; rfl
  subst e1 e2
  refine getItem_tuple_rev ht hsl ps (by rw [List.size_toArray]; omega) ?_
  refine ⟨.ref _, _, I5.laid (t' := s5.toks) (o := .tup xs.reverse) (fun b ob q => Heap.get?_push_of_some _ q) (Nat.le_refl _) ?_, rfl, q _ (I5.hok.fresh (Nat.le_refl _))⟩
  exact ⟨by rw [List.length_reverse]; exact hz, _, r.reverse, PyProof.Rows.IsTup.new _ _⟩
def dRevT (m : EM) : EM := fun ρ => (m ρ).bind fun p => match rd p.2 p.1 with
  | some (.tuple ds) => some (.dat (.tuple ds.reverse), p.2)
  | _ => none
theorem re_revT {k : Nat} {p1 p2 p3 : Pos} (he : RE X e ma) : RE X (.Subscript e (.Slice none none (some (.UnaryOp .USub (.Constant (.int 1) k p1) p2)) p3) pos) (dRevT ma) := by
  refine pem (pe_gh (pe_revT he)) fun σ H Q ⟨ρ, r', ρ', hh, em, kk⟩ => ?_
  obtain ⟨⟨ra, ρ1⟩, e1, em⟩ := Option.bind_eq_some_iff.mp em
  dsimp only at em
  split at em
  · rename_i ds e2
    cases em
    refine ⟨ρ, ra, _, hh, e1, fun x H1 s1 ok1 => ?_⟩
    obtain ⟨a, xs, rfl, hs, rp⟩ := (rd_bq s1.hold ok1 e2).tuple
    refine ⟨a, xs, rfl, hs, fun p hp => res_run s1 (same_new hp) (.inl ?_) fun H4 s4 rp => kk _ H4 s4 rp⟩
    exact .tup (.inl (.inl upd_same)) (rp.reverse.stb ⟨fun b ys q => same_new hp _ _ q, fun b o w q => same_new hp _ _ q⟩)
  · cases em
end
end Vx
/-! Vx13: own dicts in slots: look-ups and stores by values. -/
namespace Vx
open PySem PySem.Spec L2

def dctAt (ρ : Rho) (i : Nat) : Option Kvs := match ρ[i]? with
  | some (.own (.dct k)) => some k
  | some (.io (.dct k)) => some k
  | _ => none
def updD (ρ : Rho) (i : Nat) (k : Kvs) : Rho := match ρ[i]? with
  | some (.io _) => ρ.set i (.io (.dct k))
  | _ => ρ.set i (.own (.dct k))
theorem dctAt_some {ρ : Rho} {i : Nat} {k : Kvs} (h : dctAt ρ i = some k) : ρ[i]? = some (.own (.dct k)) ∨ ρ[i]? = some (.io (.dct k)) := by
  unfold dctAt at h
  split at h
  · rename_i q; cases h; exact .inl q
  · rename_i q; cases h; exact .inr q
  · cases h
theorem Hold.dct_at {K : KW} {ρ : Rho} {σ : L2.St} {H : Hp} {i : Nat} {k : Kvs} (h : Hold K ρ σ H) (e : dctAt ρ i = some k) : ∃ a, σ[i]? = some (some (.ref a)) ∧ ownRep K H (.ref a) (.dct k) := by
  have main : ∀ {s : Sl}, ρ[i]? = some s → (s = .own (.dct k) ∨ s = .io (.dct k)) → ∃ a, σ[i]? = some (some (.ref a)) ∧ ownRep K H (.ref a) (.dct k) := fun {s} q hs => by
    have hi : i < σ.length := by rw [h.len]; exact (List.getElem?_eq_some_iff.mp q).1
    have ok := h.ok i s _ q (List.getElem?_eq_getElem hi)
    rcases hs with rfl | rfl
    · obtain ⟨v, ev, r⟩ := ok
      obtain ⟨a, xs, rfl, r'⟩ := id r
      exact ⟨a, by rw [List.getElem?_eq_getElem hi, ev], r⟩
    · obtain ⟨v, ev, r⟩ := ok
      obtain ⟨a, xs, rfl, r'⟩ := id r
      exact ⟨a, by rw [List.getElem?_eq_getElem hi, ev], r⟩
  rcases dctAt_some e with q | q
  · exact main q (.inl rfl)
  · exact main q (.inr rfl)
def keyD (d : PyData) : Option NestedKey := (keyOf d).bind fun k => if k.depth ≤ 8 then some k else none
theorem keyD_spec {d : PyData} {k : NestedKey} (h : keyD d = some k) : keyOf d = some k ∧ k.depth ≤ 8 := by
  obtain ⟨k', e, h⟩ := Option.bind_eq_some_iff.mp h
  split at h
  · cases h; exact ⟨e, ‹_›⟩
  · cases h
theorem bq_key {K : KW} {H : Hp} {v : V} {d : PyData} {k : NestedKey} (h : Bq K H v d) (e : keyD d = some k) : KeyV K H v k := by
  obtain ⟨e1, e2⟩ := keyD_spec e
  refine ⟨e2, ?_⟩
  rw [keyOf_data e1]
  rcases h with h | ⟨a, xs, ds, rfl, rfl, _⟩
  · exact h
  · simp [keyOf] at e1
theorem rp_key {K : KW} {H : Hp} {v : V} {d : PyData} {k : NestedKey} (h : Rp K H v d) (e : keyD d = some k) : KeyV K H v k := bq_key (.inl h) e
/-- the heap at a dict is changed -/
theorem szs_updX {K : KW} {H : Hp} {a : Addr} {u : Heap → Prop} (z : Szs K H) : Szs K (upd H a (.ext u)) := by
  refine ⟨fun b xs q => ?_, fun b xs q => ?_⟩
  · by_cases hb : b = a
    · subst hb
      rcases q with (q | ⟨o, q⟩) | q
      · rw [upd_same] at q; cases q
      · rw [upd_same] at q; cases q
      · exact z.lst b xs (.inr q)
    · rcases q with (q | ⟨o, q⟩) | q
      · rw [upd_ne hb] at q; exact z.lst b xs (.inl (.inl q))
      · rw [upd_ne hb] at q; exact z.lst b xs (.inl (.inr ⟨o, q⟩))
      · exact z.lst b xs (.inr q)
  · by_cases hb : b = a
    · subst hb
      rcases q with (q | ⟨o, q⟩) | q
      · rw [upd_same] at q; cases q
      · rw [upd_same] at q; cases q
      · exact z.tup b xs (.inr q)
    · rcases q with (q | ⟨o, q⟩) | q
      · rw [upd_ne hb] at q; exact z.tup b xs (.inl (.inl q))
      · rw [upd_ne hb] at q; exact z.tup b xs (.inl (.inr ⟨o, q⟩))
      · exact z.tup b xs (.inr q)
theorem stb_updX {H : Hp} {a : Addr} {u u' : Heap → Prop} (ha : H a = some (.ext u)) : Stb H (upd H a (.ext u')) :=
  ⟨fun b ys q => by rw [upd_ne (fun z => by subst z; rw [ha] at q; cases q)]; exact q, fun b o w q => by rw [upd_ne (fun z => by subst z; rw [ha] at q; cases q)]; exact q⟩
/-- behind a store -/
theorem stored_rep {K : KW} {H H' : Hp} {v y z : V} {kvs : Kvs} {k : NestedKey} {d : PyData} (r : ownRep K H v (.dct kvs)) (s : Stored K H v y z kvs k d H') (hz : (kPut kvs k d).length ≤ sizeLine) : ∃ a u u', v = .ref a ∧ H a = some (.ext u) ∧ H' = upd H a (.ext u') ∧ ownRep K H' v (.dct (kPut kvs k d)) := by
  obtain ⟨a, xs, rfl, e, en, nd, hl⟩ := r
  obtain ⟨b, ys, ys', eb, e2, rfl, en'⟩ := s
  cases eb
  exact ⟨a, _, _, rfl, e2, rfl, a, ys', rfl, upd_same, Ents.stb (stb_updX e2) en', kPut_nodup nd, hz⟩
theorem Stp.updD {K : KW} {ρ : Rho} {σ : L2.St} {H H' : Hp} {i : Nat} {kvs : Kvs} {k : NestedKey} {d : PyData} {a : Addr} {y z : V} (h : Hold K ρ σ H) (e : dctAt ρ i = some kvs) (hs : σ[i]? = some (some (.ref a))) (st0 : Stored K H (.ref a) y z kvs k d H') (hz : (kPut kvs k d).length ≤ sizeLine) :
    Stp K ρ σ H (Vx.updD ρ i (kPut kvs k d)) σ H' := by
  obtain ⟨a', ha', hr⟩ := h.dct_at e
  rw [hs] at ha'
  cases ha'
  obtain ⟨a2, u, u', eb, hB, rfl, rep⟩ := stored_rep hr st0 hz
  obtain rfl : a = a2 := by cases eb; rfl
  have st := stb_updX (u' := u') hB
  have hi : i < ρ.length := by rcases dctAt_some e with q | q <;> exact (List.getElem?_eq_some_iff.mp q).1
  have at_i : ∃ m s, ρ[i]? = some s ∧ slFt m H (some (V.ref a)) s a ∧ ∃ s', Vx.updD ρ i (kPut kvs k d) = ρ.set i s' ∧ slOk K (upd H a (.ext u')) (some (V.ref a)) s' ∧ (∀ n b, slFt n (upd H a (.ext u')) (some (V.ref a)) s' b → slFt n H (some (V.ref a)) s b) ∧ (∀ o, s = .io o → ∃ o', s' = .io o') := by
    rcases dctAt_some e with q | q
    · refine ⟨false, _, q, ⟨rfl, _, rfl, rfl⟩, .own (.dct (kPut kvs k d)), by unfold Vx.updD; rw [q], ⟨_, rfl, rep⟩, fun n b f => ?_, fun o z => by cases z⟩
      obtain ⟨hm, v, ev, f⟩ := f
      exact ⟨hm, v, ev, f⟩
    · refine ⟨true, _, q, ⟨rfl, _, rfl, rfl⟩, .io (.dct (kPut kvs k d)), by unfold Vx.updD; rw [q], ⟨_, rfl, rep⟩, fun n b f => ?_, fun o z => ⟨_, rfl⟩⟩
      obtain ⟨hm, v, ev, f⟩ := f
      exact ⟨hm, v, ev, f⟩
  obtain ⟨m0, s0, q0, f0, s', eu, ok', ft', io'⟩ := at_i
  have key : ∀ (j : Nat) (t : Sl) (x : Option V), i ≠ j → ρ[j]? = some t → σ[j]? = some x → slOk K (upd H a (.ext u')) x t ∧ ∀ m b, slFt m (upd H a (.ext u')) x t b → slFt m H x t b := fun j t x ne h1 h2 =>
    (h.ok j t x h1 h2).stay st fun m b hb => upd_ne fun z => h.sep i j _ _ _ _ _ m0 m ne q0 h1 hs h2 f0 (z ▸ hb)
  rw [eu]
  have back : ∀ (j : Nat) (t : Sl) (x : Option V) m b, (ρ.set i s')[j]? = some t → σ[j]? = some x → slFt m (upd H a (.ext u')) x t b → ∃ t0, ρ[j]? = some t0 ∧ slFt m H x t0 b := fun j t x m b h1 h2 f => by
    rcases set_get h1 with ⟨e1, e2, _⟩ | ⟨n1, h1'⟩
    · subst e1 e2
      rw [hs] at h2
      cases h2
      exact ⟨s0, q0, ft' m b f⟩
    · exact ⟨t, h1', (key j t x n1 h1' h2).2 m b f⟩
  refine ⟨⟨by simp [h.len], fun j t x h1 h2 => ?_, fun j k t u x y b m n ne h1 h2 h3 h4 f1 f2 => ?_, szs_updX h.sz⟩, st, fun b o q n => ?_, fun m b q => ?_, fun b q => ?_, fun j o q => ?_⟩
  · rcases set_get h1 with ⟨e1, e2, _⟩ | ⟨n1, h1'⟩
    · subst e1 e2
      rw [hs] at h2
      cases h2
      exact ok'
    · exact (key j t x n1 h1' h2).1
  · obtain ⟨t0, z1, z2⟩ := back j t x m b h1 h3 f1
    obtain ⟨u0, z3, z4⟩ := back k u y n b h2 h4 f2
    exact h.sep j k _ _ _ _ b m n ne z1 z3 h3 h4 z2 z4
  · rw [upd_ne fun z => by subst z; exact n m0 ⟨i, s0, _, q0, hs, f0⟩]
    exact q
  · obtain ⟨j, t, x, h1, h2, h3⟩ := q
    obtain ⟨t0, z1, z2⟩ := back j t x m b h1 h2 h3
    exact .inl ⟨j, t0, x, z1, h2, z2⟩
  · by_cases hb : b = a
    · subst hb; rw [upd_same]; simp
    · rw [upd_ne hb]; exact q
  · by_cases hj : i = j
    · subst hj
      rw [q0] at q
      obtain ⟨o', rfl⟩ := io' o (Option.some.inj q)
      refine ⟨o', by rw [List.getElem?_set_self hi], rfl, fun b x hx f => .inl ?_⟩
      rw [hs] at hx
      cases hx
      have := ft' true b f
      rw [Option.some.inj q] at this
      exact this
    · refine ⟨o, by rw [List.getElem?_set_ne hj]; exact q, rfl, fun b x hx f => .inl ((key j _ x hj q hx).2 true b f)⟩

/-! ### the computations -/
def dDIx (i : Nat) (mk : EM) : EM := fun ρ => (dctAt ρ i).bind fun _ => (mk ρ).bind fun q => (rd q.2 q.1).bind fun kd => (keyD kd).bind fun k => (dctAt q.2 i).bind fun kvs => (kLook kvs k).map fun d => (.dat d, q.2)
def dDIn (n : Bool) (mk : EM) (i : Nat) : EM := fun ρ => (mk ρ).bind fun q => (rd q.2 q.1).bind fun kd => (keyD kd).bind fun k => (dctAt q.2 i).map fun kvs => (.dat (.bool (if n = true then !(kLook kvs k).isSome else (kLook kvs k).isSome)), q.2)
def dDG1 (i : Nat) (mk : EM) : EM := fun ρ => (dctAt ρ i).bind fun _ => (mk ρ).bind fun q => (rd q.2 q.1).bind fun kd => (keyD kd).bind fun k => (dctAt q.2 i).map fun kvs => (.dat ((kLook kvs k).getD .none), q.2)
def dDG2 (i : Nat) (mk mz : EM) : EM := fun ρ => (dctAt ρ i).bind fun _ => (mk ρ).bind fun q => (mz q.2).bind fun r => (rd r.2 q.1).bind fun kd => (keyD kd).bind fun k => (dctAt r.2 i).map fun kvs => (match kLook kvs k with | some d => .dat d | none => r.1, r.2)
/-- setdefault -/
def dDSd (i : Nat) (mk : EM) (mz : VM) : EM := fun ρ => (dctAt ρ i).bind fun _ => (mk ρ).bind fun q => (mz q.2).bind fun r => (rd r.2 q.1).bind fun kd => (keyD kd).bind fun k => (dctAt r.2 i).bind fun kvs => match kLook kvs k with
  | some d => some (.dat d, r.2)
  | none => if kvs.length < sizeLine then some (.dat r.1, updD r.2 i (kPut kvs k r.1)) else none
def sSetD (i : Nat) (mk : EM) (m : VM) : SM := fun ρ => (m ρ).bind fun p => (dctAt p.2 i).bind fun _ => (mk p.2).bind fun q => (rd q.2 q.1).bind fun kd => (keyD kd).bind fun k => (dctAt q.2 i).bind fun kvs => if (kPut kvs k p.1).length ≤ sizeLine then some (.nx, updD q.2 i (kPut kvs k p.1)) else none
def oNewD : OM := fun ρ => some (.dct [], ρ)
section
variable {X : Cx} {e f a b : Expr} {pos p apos cpos : Pos} {mk mz : EM} {m : VM}
theorem re_dIx (hu : X.A.units + 9 < cLine) (i : Nat) {x : Str} (hk : RE X e mk) (hs : NoSl e) (hN : X.N[i]? = some x := by rfl) (hv : Vis X.env.scope x := by first | exact Or.inl rfl | exact Or.inr (Or.inl rfl) | exact Or.inr (Or.inr rfl)) (hd : (x == ("__debug__" : Str)) = false := by decide)
    (hcd : (x == ("__classdict__" : Str)) = false := by decide) : RE X (.Subscript (.Name x p) e pos) (dDIx i mk) := by
  refine pem (pe_dIx hu (pe_var hN hv hd hcd) hk hs) fun σ H Q ⟨ρ, r, ρ', hh, em, k⟩ => ?_
  obtain ⟨k0, e0, em⟩ := Option.bind_eq_some_iff.mp em
  obtain ⟨⟨rk, ρ1⟩, e1, em⟩ := Option.bind_eq_some_iff.mp em
  obtain ⟨kd, e2, em⟩ := Option.bind_eq_some_iff.mp em
  obtain ⟨kk, e3, em⟩ := Option.bind_eq_some_iff.mp em
  obtain ⟨kvs, e4, em⟩ := Option.bind_eq_some_iff.mp em
  obtain ⟨d, e5, em⟩ := Option.map_eq_some_iff.mp em
  cases em
  obtain ⟨a, hσ, _⟩ := hh.dct_at e0
  refine ⟨.ref a, hσ, ρ, rk, _, hh, e1, fun v H1 s1 ok => ?_⟩
  obtain ⟨a', hσ', rep⟩ := s1.hold.dct_at e4
  rw [hσ] at hσ'
  cases hσ'
  exact ⟨kvs, kk, d, rep, bq_key (rd_bq s1.hold ok e2) e3, e5, fun w rw' => k w H1 s1 rw'⟩
theorem re_dIn (hu : X.A.units + 9 < cLine) (i : Nat) {x : Str} (hk : RE X a mk) (hm : behindInMarks .In (.Name x p) = false := by rfl) (hN : X.N[i]? = some x := by rfl) (hv : Vis X.env.scope x := by first | exact Or.inl rfl | exact Or.inr (Or.inl rfl) | exact Or.inr (Or.inr rfl)) (hd : (x == ("__debug__" : Str)) = false := by decide)
    (hcd : (x == ("__classdict__" : Str)) = false := by decide) : RE X (.Compare a [.In] [.Name x p] pos) (dDIn false mk i) := by
  refine pem (pe_cmpR (op_dIn hu) hk (pe_var hN hv hd hcd) hm) fun σ H Q ⟨ρ, r, ρ', hh, em, k⟩ => ?_
  obtain ⟨⟨rk, ρ1⟩, e1, em⟩ := Option.bind_eq_some_iff.mp em
  obtain ⟨kd, e2, em⟩ := Option.bind_eq_some_iff.mp em
  obtain ⟨kk, e3, em⟩ := Option.bind_eq_some_iff.mp em
  obtain ⟨kvs, e4, em⟩ := Option.map_eq_some_iff.mp em
  cases em
  refine ⟨ρ, rk, _, hh, e1, fun v H1 s1 ok => ?_⟩
  obtain ⟨a', hσ', rep⟩ := s1.hold.dct_at e4
  exact ⟨.ref a', hσ', kvs, kk, rep, bq_key (rd_bq s1.hold ok e2) e3, k _ H1 s1 (.bl _)⟩
theorem re_dNotIn (hu : X.A.units + 9 < cLine) (i : Nat) {x : Str} (hk : RE X a mk) (hm : behindInMarks .NotIn (.Name x p) = false := by rfl) (hN : X.N[i]? = some x := by rfl) (hv : Vis X.env.scope x := by first | exact Or.inl rfl | exact Or.inr (Or.inl rfl) | exact Or.inr (Or.inr rfl)) (hd : (x == ("__debug__" : Str)) = false := by decide)
    (hcd : (x == ("__classdict__" : Str)) = false := by decide) : RE X (.Compare a [.NotIn] [.Name x p] pos) (dDIn true mk i) := by
  refine pem (pe_cmpR (op_dNotIn hu) hk (pe_var hN hv hd hcd) hm) fun σ H Q ⟨ρ, r, ρ', hh, em, k⟩ => ?_
  obtain ⟨⟨rk, ρ1⟩, e1, em⟩ := Option.bind_eq_some_iff.mp em
  obtain ⟨kd, e2, em⟩ := Option.bind_eq_some_iff.mp em
  obtain ⟨kk, e3, em⟩ := Option.bind_eq_some_iff.mp em
  obtain ⟨kvs, e4, em⟩ := Option.map_eq_some_iff.mp em
  cases em
  refine ⟨ρ, rk, _, hh, e1, fun v H1 s1 ok => ?_⟩
  obtain ⟨a', hσ', rep⟩ := s1.hold.dct_at e4
  exact ⟨.ref a', hσ', kvs, kk, rep, bq_key (rd_bq s1.hold ok e2) e3, k _ H1 s1 (.bl _)⟩
theorem re_dG1 (hu : X.A.units + 9 < cLine) (i : Nat) {x : Str} (hk : RE X e mk) (m1 : M1 X (.Name x p) "get" apos e cpos) (hN : X.N[i]? = some x := by rfl) (hv : Vis X.env.scope x := by first | exact Or.inl rfl | exact Or.inr (Or.inl rfl) | exact Or.inr (Or.inr rfl)) (hd : (x == ("__debug__" : Str)) = false := by decide)
    (hcd : (x == ("__classdict__" : Str)) = false := by decide) : RE X (.Call (.Attribute (.Name x p) "get" apos) [e] [] cpos) (dDG1 i mk) := by
  refine pem (pe_dG1 hu (pe_var hN hv hd hcd) hk m1) fun σ H Q ⟨ρ, r, ρ', hh, em, k⟩ => ?_
  obtain ⟨k0, e0, em⟩ := Option.bind_eq_some_iff.mp em
  obtain ⟨⟨rk, ρ1⟩, e1, em⟩ := Option.bind_eq_some_iff.mp em
  obtain ⟨kd, e2, em⟩ := Option.bind_eq_some_iff.mp em
  obtain ⟨kk, e3, em⟩ := Option.bind_eq_some_iff.mp em
  obtain ⟨kvs, e4, em⟩ := Option.map_eq_some_iff.mp em
  cases em
  obtain ⟨a, hσ, r0⟩ := hh.dct_at e0
  refine ⟨.ref a, hσ, ⟨k0, r0⟩, ρ, rk, _, hh, e1, fun v H1 s1 ok => ?_⟩
  obtain ⟨a', hσ', rep⟩ := s1.hold.dct_at e4
  rw [hσ] at hσ'
  cases hσ'
  refine ⟨kvs, kk, rep, bq_key (rd_bq s1.hold ok e2) e3, fun hn => ?_, fun d hd w rw' => ?_⟩
  · rw [hn] at k; exact k _ H1 s1 .non
  · rw [hd] at k; exact k w H1 s1 rw'
theorem re_dG2 (hu : X.A.units + 9 < cLine) (i : Nat) {x : Str} (hk : RE X e mk) (hz : RE X f mz) (m2 : M2 X (.Name x p) "get" apos e f cpos) (hN : X.N[i]? = some x := by rfl) (hv : Vis X.env.scope x := by first | exact Or.inl rfl | exact Or.inr (Or.inl rfl) | exact Or.inr (Or.inr rfl)) (hd : (x == ("__debug__" : Str)) = false := by decide)
    (hcd : (x == ("__classdict__" : Str)) = false := by decide) : RE X (.Call (.Attribute (.Name x p) "get" apos) [e, f] [] cpos) (dDG2 i mk mz) := by
  refine pem (pe_dG2 hu (pe_var hN hv hd hcd) hk hz m2) fun σ H Q ⟨ρ, r, ρ', hh, em, k⟩ => ?_
  obtain ⟨k0, e0, em⟩ := Option.bind_eq_some_iff.mp em
  obtain ⟨⟨rk, ρ1⟩, e1, em⟩ := Option.bind_eq_some_iff.mp em
  obtain ⟨⟨rz, ρ2⟩, e6, em⟩ := Option.bind_eq_some_iff.mp em
  obtain ⟨kd, e2, em⟩ := Option.bind_eq_some_iff.mp em
  obtain ⟨kk, e3, em⟩ := Option.bind_eq_some_iff.mp em
  obtain ⟨kvs, e4, em⟩ := Option.map_eq_some_iff.mp em
  cases em
  obtain ⟨a, hσ, r0⟩ := hh.dct_at e0
  refine ⟨.ref a, hσ, ⟨k0, r0⟩, ρ, rk, ρ1, hh, e1, fun v H1 s1 ok => ⟨ρ1, rz, _, s1.hold, e6, fun z H2 s2 okz => ?_⟩⟩
  obtain ⟨a', hσ', rep⟩ := s2.hold.dct_at e4
  rw [hσ] at hσ'
  cases hσ'
  refine ⟨kvs, kk, rep, bq_key (rd_bq s2.hold (ok.stb s2.stb) e2) e3, fun hn => ?_, fun d hd w rw' => ?_⟩
  · simp only [hn] at k; exact k _ H2 (s1.trans s2) okz
  · simp only [hd] at k; exact k w H2 (s1.trans s2) rw'
theorem kPut_look {kvs : Kvs} {k : NestedKey} {d : PyData} (h : kLook kvs k = none) : (kPut kvs k d).length = kvs.length + 1 := by
  have := congrArg List.length (kPut_keys kvs k d)
  rw [h] at this
  simpa using this
theorem kPut_len_some {kvs : Kvs} {k : NestedKey} {d d' : PyData} (h : kLook kvs k = some d') : (kPut kvs k d).length = kvs.length := by
  have := congrArg List.length (kPut_keys kvs k d)
  rw [h] at this
  simpa using this
theorem re_dSd (hu : X.A.units + 9 < cLine) (i : Nat) {x : Str} (hk : RE X e mk) (hz : VE X f m) (m2 : M2 X (.Name x p) "setdefault" apos e f cpos) (hN : X.N[i]? = some x := by rfl) (hv : Vis X.env.scope x := by first | exact Or.inl rfl | exact Or.inr (Or.inl rfl) | exact Or.inr (Or.inr rfl)) (hd : (x == ("__debug__" : Str)) = false := by decide)
    (hcd : (x == ("__classdict__" : Str)) = false := by decide) : RE X (.Call (.Attribute (.Name x p) "setdefault" apos) [e, f] [] cpos) (dDSd i mk m) := by
  refine pem (pe_dSd hu (pe_var hN hv hd hcd) hk hz m2) fun σ H Q ⟨ρ, r, ρ', hh, em, k⟩ => ?_
  obtain ⟨k0, e0, em⟩ := Option.bind_eq_some_iff.mp em
  obtain ⟨⟨rk, ρ1⟩, e1, em⟩ := Option.bind_eq_some_iff.mp em
  obtain ⟨⟨dz, ρ2⟩, e6, em⟩ := Option.bind_eq_some_iff.mp em
  obtain ⟨kd, e2, em⟩ := Option.bind_eq_some_iff.mp em
  obtain ⟨kk, e3, em⟩ := Option.bind_eq_some_iff.mp em
  obtain ⟨kvs, e4, em⟩ := Option.bind_eq_some_iff.mp em
  obtain ⟨a, hσ, r0⟩ := hh.dct_at e0
  refine ⟨.ref a, hσ, ⟨k0, r0⟩, ρ, rk, ρ1, hh, e1, fun v H1 s1 ok => ⟨ρ1, dz, ρ2, s1.hold, e6, fun z H2 s2 rz => ?_⟩⟩
  obtain ⟨a', hσ', rep⟩ := s2.hold.dct_at e4
  rw [hσ] at hσ'
  cases hσ'
  have kv := bq_key (rd_bq s2.hold (ok.stb s2.stb) e2) e3
  dsimp only at em
  cases q : kLook kvs kk with
  | some d' =>
    rw [q] at em
    cases em
    refine ⟨kvs, kk, dz, rep, kv, rz, by rw [kPut_len_some q]; exact rep.choose_spec.choose_spec.2.2.2.2, fun hn => (by rw [hn] at q; cases q), fun d hd w rw' => ?_⟩
    rw [q] at hd
    cases hd
    exact k w H2 (s1.trans s2) rw'
  | none =>
    rw [q] at em
    dsimp only at em
    by_cases hl : kvs.length < sizeLine
    · rw [if_pos hl] at em
      cases em
      have hz : (kPut kvs kk dz).length ≤ sizeLine := by rw [kPut_look q]; omega
      refine ⟨kvs, kk, dz, rep, kv, rz, hz, fun _ H' st => ?_, fun d hd => (by rw [hd] at q; cases q)⟩
      have s3 := Stp.updD s2.hold e4 hσ st hz
      exact k z H' (s1.trans (s2.trans s3)) (Rp.stb s3.stb rz)
    · rw [if_neg hl] at em; cases em
theorem oe_newD : OE X (.Dict [] [] pos) oNewD := by
  refine pem (pe_gh pe_dNewA) fun σ H Q ⟨ρ, o, ρ', hh, em, k⟩ => ?_
  cases em
  intro q hq z
  refine .inl ?_
  obtain ⟨s4, n4⟩ := newo_run (o := .dct []) (.refl hh) (same_new hq) z ⟨q, [], rfl, upd_same, .nil, by simp, Nat.zero_le _⟩ (fun b hb => by cases hb; exact hq)
  exact k _ _ s4 n4
theorem se_setD (hu : X.A.units + 9 < cLine) (i : Nat) {x : Str} {spos : Pos} (hk : RE X f mk) (he : VE X e m) (hN : X.N[i]? = some x := by rfl) (hv : Vis X.env.scope x := by first | exact Or.inl rfl | exact Or.inr (Or.inl rfl) | exact Or.inr (Or.inr rfl)) (hd : (x == ("__debug__" : Str)) = false := by decide)
    (hcd : (x == ("__classdict__" : Str)) = false := by decide) (hs : swapsWithSole [.Subscript (.Name x p) f spos] e pos.line X.env = pure false := by rfl) (hw : swappedStores [.Subscript (.Name x p) f spos] e X.env = pure none := by rfl)
    (h1 : (assignEach [.Subscript (.Name x p) f spos] X.env).map (·.2) = [assign (.Subscript (.Name x p) f spos) X.env] := by rfl)
    (ha : ∀ v, assign (.Subscript (.Name x p) f spos) X.env v = (do
      let ov ← holding [v] (eval (.Name x p) X.env)
      let iv ← holding [v, ov] (eval f X.env)
      standAt spos
      holding [v, ov, iv] (setItem ov iv v)
      release [v, ov, iv] []) := by intro _; rfl) : SE X (.Assign [.Subscript (.Name x p) f spos] e pos) (sSetD i mk m) := by
  refine psm (ps_asg he (pg_sub (pe_var hN hv hd hcd) hk (set_dict hu) ha) hs hw h1) fun D σ H ⟨ρ, f, ρ', hh, em, k⟩ => ?_
  obtain ⟨⟨d, ρ1⟩, e1, em⟩ := Option.bind_eq_some_iff.mp em
  obtain ⟨d0, e0, em⟩ := Option.bind_eq_some_iff.mp em
  obtain ⟨⟨r, ρ2⟩, e2, em⟩ := Option.bind_eq_some_iff.mp em
  obtain ⟨kd, e3, em⟩ := Option.bind_eq_some_iff.mp em
  obtain ⟨kk, e4, em⟩ := Option.bind_eq_some_iff.mp em
  obtain ⟨kvs, e5, em⟩ := Option.bind_eq_some_iff.mp em
  dsimp only at em
  by_cases hz : (kPut kvs kk d).length ≤ sizeLine
  · rw [if_pos hz] at em
    cases em
    refine ⟨ρ, d, ρ1, hh, e1, fun v H1 s1 rp => ?_⟩
    obtain ⟨a, hσ, _⟩ := s1.hold.dct_at e0
    refine ⟨.ref a, hσ, ρ1, r, ρ2, s1.hold, e2, fun iv H2 s2 ok => ?_⟩
    obtain ⟨a', hσ', rep⟩ := s2.hold.dct_at e5
    rw [hσ] at hσ'
    cases hσ'
    refine ⟨kvs, kk, d, rep, bq_key (rd_bq s2.hold ok e3) e4, Rp.stb s2.stb rp, hz, fun H' st => ?_⟩
    exact k σ _ ((s1.trans s2).trans (Stp.updD s2.hold e5 hσ st hz))
  · rw [if_neg hz] at em; cases em
end
end Vx
/-! Vx14: {k: v for ..} with keys of any kind; {k: v}; d[k] op= e. -/
namespace Vx
open PySem PySem.Spec L2

section
variable {X : Cx} {pins : List (Addr × Obj)} {σ : L2.St} {H : Hp} {s : Shared}
theorem dictSet_ok {E : Value → Shared → Prop} {D : Addr} {y z : V} {u r : Value} {Nx : Hp → Prop} (hu : X.A.units + 9 < cLine) (I : Inv X pins σ H s) (ry : RelV y u) (rz : RelV z r) (h : rDPut X.kw (.ref D) y z H Nx) :
    wpAny (model X.prog X.w) X.A (dictSet D u r) (fun _ s' => ∃ H', Inv X pins σ H' s' ∧ Nx H') E s := by
  obtain ⟨kvs, k, d, rep, kv, pz, hz, q⟩ := h
  obtain ⟨a, xs, ea, ha, he, m, en, nd, hl, hx⟩ := dict_at I rep
  cases ea
  exact any_set (by omega) (kv.nested I ry) kv.1 m hx fun h' m' sb => ⟨_, dict_write I he ha sb m', q _ (stored_at en nd he kv ry rz pz)⟩
abbrev dNil (w : World) (D : Addr) : HO := .ext (rawDict D (([] : List Ent).map (entOf w)))
/-- a dict built by a walk: D is the new one -/
def tDcA (K : KW) (wi : TI) (g : TG) (tt : TT) (tk tv : TE) (vs : List Nat) : TE := fun σ H Q => wi σ H fun J H1 => ∀ D, H1 D = none → ∃ W : Nat → Nat → Hp → Prop, (∃ m, W 0 m (upd H1 D (dNil K.w D))) ∧ ∀ i m G, W i m G →
  (J.stop i G ∧ Q (.ref D) G) ∨ (J.go i G ∧ ∃ Nx : Hp → Prop, (∀ G', Nx G' → ∃ m', m' < m ∧ W (i + 1) m' G') ∧ ∀ x G', J.yld i G x G' → g x (L2.wipe σ vs) G' fun σ2 G2 => L2.wipe σ2 vs = L2.wipe σ vs ∧ tt σ2 G2 fun b G3 =>
    if b = true then tk σ2 G3 fun y G4 => tv σ2 G4 fun z G5 => rDPut K (.ref D) y z G5 Nx else Nx G3)
theorem pe_dcA {kx vx tg iter : Expr} {ifs : List Expr} {scope : Scope} {own : List (Str × Nat)} {pos : Pos} {wi : TI} {g : TG} {tt : TT} {tk tv : TE} (hu : X.A.units + 9 < cLine) (hc : X.calm = true) (hN : X.N.Nodup) (ok : BlkOk X.N X.env.scope scope own) (hi : PI X tg iter wi)
    (hg : ∀ (s : Shared) (H : Hp) (C : Addr) (cl : List (Str × Addr)) (fp : List Addr), PG (X.blk s H scope (compEnvC scope cl C X.env) fp) tg g)
    (ht : ∀ (s : Shared) (H : Hp) (C : Addr) (cl : List (Str × Addr)) (fp : List Addr), PTs (X.blk s H scope (compEnvC scope cl C X.env) fp) ifs tt)
    (hk : ∀ (s : Shared) (H : Hp) (C : Addr) (cl : List (Str × Addr)) (fp : List Addr), PE (X.blk s H scope (compEnvC scope cl C X.env) fp) kx tk)
    (hv : ∀ (s : Shared) (H : Hp) (C : Addr) (cl : List (Str × Addr)) (fp : List Addr), PE (X.blk s H scope (compEnvC scope cl C X.env) fp) vx tv)
    (hs : ∀ x, foldedSetIterable iter X.env x = pure x := by intro _; rfl) : PE X (.DictComp kx vx [⟨tg, iter, ifs, 0⟩] scope pos) (tDcA X.kw wi g tt tk tv (own.map (·.2))) := by
  refine ⟨fun pins s σ H Q I h => ?_⟩
  rw [arm_eval_DictComp]
  have free_ok : ∀ y ∈ scope.names, y.2 = .free → ∃ c, X.env.cells.lookup y.1 = some c := fun y hy e => (ok.free y hy e).elim (fun k => I.ok.has _ (.inl k)) fun k => I.ok.has _ (.inr k)
  refine wpAny_comprehension_free (use := none) rfl hs (closure_ok free_ok) ok.kind (fun y hy e => by rw [ok.uniq y hy, e]) (thn (hi.run pins s σ H _ I h) fun v0 s1 h1 => thn h1 fun v1 s2 ⟨it, fp, tn, J, H2, ev, I2, T, st2, f2, q⟩ => ?_)
  subst ev
  refine wpAny_newObj_type (newEnv_comp ?_)
  generalize hD : s2.heap.objs.size = D
  have nD : H2 D = none := I2.hok.fresh (Nat.le_of_eq hD)
  obtain ⟨W, ⟨m0, w0⟩, turn⟩ := q D nD
  generalize e3 : ({ s2 with heap := s2.heap.push { cls := .type "dict", data := .dict #[] } } : Shared) = s3
  have p3 : s3.heap = s2.heap.push { cls := .type "dict", data := .dict #[] } := by rw [← e3]
  generalize eH : upd H2 D (dNil X.w D) = H3 at w0
  have I3 : Inv X pins σ H3 s3 := by
    rw [← e3, ← eH]
    refine I2.laid (t' := s2.toks) (fun b o e => Heap.get?_push_of_some _ e) (Nat.le_of_eq hD) ?_
    rw [← hD]
    exact rawDict_ok (beq_eq_false_iff_ne.mpr (Ne.symm (Nat.ne_of_lt I2.big))) new_dict
  have lt3 : ∀ b ∈ fp, b < s2.heap.objs.size := fun b hb => let ⟨o, e, _⟩ := T.obj _ _ st2 b hb; Heap.lt_size e
  have f3 : ∀ b ∈ fp, FpOk X pins H3 b ∧ b < s3.heap.objs.size := fun b hb => by
    refine ⟨⟨?_, (f2 b hb).2⟩, by rw [p3, Heap.size_push]; exact Nat.lt_succ_of_lt (lt3 b hb)⟩
    rw [← eH, upd_ne (by rw [← hD]; exact Nat.ne_of_lt (lt3 b hb))]
    exact (f2 b hb).1
  have st3 : tn 0 s3.heap := T.keep _ _ _ st2 fun b _ o e => by rw [p3]; exact Heap.get?_push_of_some _ e
  have I4 := block_start I3 ok hN f3
  show codeAny _ _ (.compStart (.DictComp kx vx [⟨tg, iter, ifs, 0⟩] scope pos) 0 (.ref it) (.ref D) (compEnvC scope (cellsFrom (s3.heap.objs.size + 1) scope.names (cloFrom X.env.cells scope.names [])) s3.heap.objs.size X.env)) (compPost (model X.prog X.w) X.A X.xe none (EP X pins σ Q) (.ref D) s3.heap.objs.size) { s3 with heap := pushCells (s3.heap.push { cls := .type "dict", data := .dict #[] }) scope.names }
  generalize hcl : cellsFrom (s3.heap.objs.size + 1) scope.names (cloFrom X.env.cells scope.names []) = cl at I4 ⊢
  have pg := hg s3 H3 s3.heap.objs.size cl fp
  have pt := ht s3 H3 s3.heap.objs.size cl fp
  have pk := hk s3 H3 s3.heap.objs.size cl fp
  have pv := hv s3 H3 s3.heap.objs.size cl fp
  have nfp : ∀ b ∈ fp, H3 b = none := fun b hb => (f3 b hb).1.1
  generalize hce : compEnvC scope cl s3.heap.objs.size X.env = ce at I4 pg pt pk pv ⊢
  have cL : ce.locals = s3.heap.objs.size := by rw [← hce]; rfl
  generalize e4 : ({ s3 with heap := pushCells (s3.heap.push { cls := .type "dict", data := .dict #[] }) scope.names } : Shared) = s4 at I4 ⊢
  have st4 : tn 0 s4.heap := T.keep _ _ _ st3 fun b _ o e => by rw [← e4]; exact pushCells_keeps _ _ _ _ (Heap.get?_push_of_some _ e)
  have stat : ∀ {τ : L2.St} {G : Hp} {s' : Shared}, Inv (X.blk s3 H3 scope ce fp) [] τ G s' → (∀ b ∈ fp, G b = none) → ∀ b ∈ fp, FpOk (X.blk s3 H3 scope ce fp) [] G b := fun {τ G s'} I' hn b hb =>
    ⟨hn b hb, (I'.ok.exf b hb).1, I'.ok.exfs b hb, .inl hb, fun x c e => (I'.ok.exf b hb).2 x c e, fun p hp => absurd (show p ∈ ([] : List (Addr × Obj)) ++ [] from hp) (by simp)⟩
  have loop : codeAny (model X.prog X.w) X.A (.compLoop (.DictComp kx vx [⟨tg, iter, ifs, 0⟩] scope pos) 0 (.ref it) (.ref D) ce) (compPost (model X.prog X.w) X.A X.xe none (EP X pins σ Q) (.ref D) s3.heap.objs.size) s4 := by
    refine compLoop_anyD (fun n s' => ∃ i G, Inv (X.blk s3 H3 scope ce fp) [] (L2.wipe σ (own.map (·.2))) G s' ∧ tn i s'.heap ∧ (∀ b ∈ fp, G b = none) ∧ W i n G) ?_ m0 ⟨0, H3, I4, st4, nfp, w0⟩
    rintro n s5 ⟨i, H5, I5, st5, n5, w5⟩
    rcases turn i n H5 w5 with ⟨stop, qq⟩ | ⟨go, Nx, hNx, step⟩
    · refine thnF (T.done (X.blk s3 H3 scope ce fp) rfl rfl rfl hc i [] s5 _ H5 (fun _ _ => False) I5 (stat I5 n5) st5 stop) fun r s6 hr => ?_
      obtain ⟨rfl, I6⟩ := hr
      have I7 : Inv X pins σ H5 s6 := I3.call' (ch := fp) I6.os I6.base I6.hok I6.bare fun b hb => ⟨(f3 b hb).1.2.2.2.1, (f3 b hb).1.2.1, (f3 b hb).1.2.2.2.2.1, (f3 b hb).1.2.2.2.2.2⟩
      have nC : H5 s3.heap.objs.size = none := by rw [← cL]; exact I6.free
      obtain ⟨m, hn, _⟩ := I6.loc
      refine ⟨m, by rw [← cL]; exact hn, fun h'' sb => ?_⟩
      obtain ⟨g0, g1, g2, g3, g4, g5⟩ := I3.fpOk (Nat.le_refl _) nC
      exact ⟨.ref D, H5, I7.turned (t' := s6.toks) (fun b o hb e => (sb.2 b hb).trans e) g0 g1 g3 g4 g5, rfl, qq⟩
    · refine thnF (T.item (X.blk s3 H3 scope ce fp) rfl rfl rfl hc i [] s5 _ H5 (fun _ _ => False) I5 (stat I5 n5) st5 go) fun r s6 hr => ?_
      obtain ⟨u, rfl, h6⟩ := hr
      refine thnF h6 fun _ s7 h7 => ?_
      obtain ⟨x, H7, I7, r7, y7, st7, n7⟩ := h7
      refine thnF (pg.run _ s7 _ H7 x u _ (I7.pinned (stat I7 n7) (T.obj _ _ st7)) r7 (step x H7 y7)) fun _ s8 h8 => ?_
      obtain ⟨σ8, H8, I8, hw8, q8⟩ := h8
      refine thnF (pt.run _ s8 σ8 H8 _ I8 q8) fun b s9 h9 => ?_
      obtain ⟨H9, I9, q9⟩ := h9
      have fin : ∀ {s' : Shared} {G : Hp}, Inv (X.blk s3 H3 scope ce fp) ([] ++ pinsAt fp s7.heap) σ8 G s' → Nx G → ∃ m, m < n ∧ ∃ i G, Inv (X.blk s3 H3 scope ce fp) [] (L2.wipe σ (own.map (·.2))) G s' ∧ tn i s'.heap ∧ (∀ b ∈ fp, G b = none) ∧ W i m G := fun {s' G} I' nx => by
        obtain ⟨m', hm, w'⟩ := hNx G nx
        have keep : ∀ b ∈ fp, ∀ o, s7.heap.get? b = some o → s'.heap.get? b = some o ∧ G b = none := fun b hb o e =>
          let z := I'.pin (b, o) (List.mem_append_right _ (List.mem_append_right _ (mem_pinsAt hb e))); ⟨z.1, z.2.1⟩
        have hl : (L2.wipe σ (own.map (·.2))).length = σ8.length := by rw [← hw8, wipe_length]
        refine ⟨m', hm, i + 1, G, (I'.unpinned (pins := [])).weak hl (fun j v e => ?_), T.keep _ _ _ st7 fun b hb o e => (keep b hb o e).1, fun b hb => ?_, w'⟩
        · rw [← hw8] at e; exact (wipe_some e).1
        · obtain ⟨o, e, _⟩ := T.obj _ _ st7 b hb; exact (keep b hb o e).2
      cases b with
      | false =>
        simp only [Bool.false_eq_true, if_false] at q9 ⊢
        exact fin I9 q9
      | true =>
        simp only [if_true] at q9 ⊢
        refine thnF (pk.run _ s9 σ8 H9 _ I9 q9) fun u1 s10 h10 => ?_
        obtain ⟨yk, H10, I10, r10, q10⟩ := h10
        refine thnF (pv.run _ s10 σ8 H10 _ I10 q10) fun u2 s11 h11 => ?_
        obtain ⟨yv, H11, I11, r11, put⟩ := h11
        exact wpAny_mono (dictSet_ok (X := X.blk s3 H3 scope ce fp) hu I11 r10 r11 put) (fun _ s12 ⟨H12, I12, nx⟩ => fin I12 nx) fun _ _ z => z
  exact codeAny_compStart_dict loop (T.self X.A 0 _ _ _ st4 loop)
end

def compDct (g : GM) (t : TM) (mk mv : VM) (vs : List Nat) : List PyData → Kvs → Rho → Option (Kvs × Rho)
  | [], acc, ρ => some (acc, ρ)
  | d :: ds, acc, ρ => (g d ρ).bind fun ρ1 => (t ρ1).bind fun p => if p.1 = true then
        (mk p.2).bind fun q => (mv q.2).bind fun r => (keyD q.1).bind fun k => if (kPut acc k r.1).length ≤ sizeLine then (wipeO r.2 vs).bind fun ρ2 => compDct g t mk mv vs ds (kPut acc k r.1) ρ2 else none
      else (wipeO p.2 vs).bind fun ρ2 => compDct g t mk mv vs ds acc ρ2
def oDc (it : IM) (g : GM) (t : TM) (mk mv : VM) (vs : List Nat) : OM := fun ρ => (it ρ).bind fun p => (wipeO p.2 vs).bind fun ρw => (compDct g t mk mv vs p.1 [] ρw).map fun r => (.dct r.1, r.2)
/-- what must be known of the new dict at D -/
structure AtE (K : KW) (ρ : Rho) (σ : L2.St) (G : Hp) (D : Addr) (acc : Kvs) : Prop where
  no : ∀ m, ¬ owned m ρ σ G D
  rep : ownRep K G (.ref D) (.dct acc)
theorem AtE.ext {K : KW} {ρ : Rho} {σ : L2.St} {G : Hp} {D : Addr} {acc : Kvs} (a : AtE K ρ σ G D acc) : ∃ u, G D = some (.ext u) := by
  obtain ⟨b, xs, e, h, _⟩ := a.rep
  cases e
  exact ⟨_, h⟩
theorem AtE.step {K : KW} {ρ ρ' : Rho} {σ σ' : L2.St} {G G' : Hp} {D : Addr} {acc : Kvs} (a : AtE K ρ σ G D acc) (s : Stp K ρ σ G ρ' σ' G') : AtE K ρ' σ' G' D acc := by
  obtain ⟨u, hu⟩ := a.ext
  refine ⟨fun m q => (s.fresh m D q).elim (a.no m) fun z => (by rw [hu] at z; cases z), (a.rep.stay s.stb fun b hb => ?_).1⟩
  cases hb
  rw [hu, s.keep D _ hu a.no]
theorem AtE.un {K : KW} {ρ : Rho} {σ τ : L2.St} {G : Hp} {D : Addr} {acc : Kvs} (a : AtE K ρ σ G D acc) (hl : τ.length = σ.length) (e : ∀ (i : Nat), ρ[i]? ≠ some Sl.un → τ[i]? = σ[i]?) : AtE K ρ τ G D acc :=
  ⟨fun m q => a.no m (owned_un hl e q), a.rep⟩
/-- an address that no slot owns is changed -/
theorem Stp.pokeX {K : KW} {ρ ρ' : Rho} {σ σ' : L2.St} {H H' : Hp} {a : Addr} {u u' : Heap → Prop} (s : Stp K ρ σ H ρ' σ' H') (ha : H a = none) (hn : ∀ m, ¬ owned m ρ' σ' H' a) (e : H' a = some (.ext u)) :
    Stp K ρ σ H ρ' σ' (upd H' a (.ext u')) ∧ ∀ m, ¬ owned m ρ' σ' (upd H' a (.ext u')) a := by
  have st : Stb H' (upd H' a (.ext u')) := stb_updX e
  have key : ∀ (i : Nat) (t : Sl) (x : Option V), ρ'[i]? = some t → σ'[i]? = some x → slOk K (upd H' a (.ext u')) x t ∧ ∀ m b, slFt m (upd H' a (.ext u')) x t b → slFt m H' x t b := fun i t x h1 h2 =>
    (s.hold.ok i t x h1 h2).stay st fun m b hb => upd_ne fun q => hn m ⟨i, t, x, h1, h2, q ▸ hb⟩
  refine ⟨⟨⟨s.hold.len, fun i t x h1 h2 => (key i t x h1 h2).1, fun i j t t' x y b m n ne h1 h2 h3 h4 f1 f2 => s.hold.sep i j t t' x y b m n ne h1 h2 h3 h4 ((key i t x h1 h3).2 m b f1) ((key j t' y h2 h4).2 n b f2), szs_updX s.hold.sz⟩,
    s.stb.trans st, fun b o q n => ?_, fun m b q => ?_, fun b q => ?_, fun i o q => ?_⟩, fun m q => ?_⟩
  · rw [upd_ne (fun z => by subst z; rw [ha] at q; cases q)]
    exact s.keep b o q n
  · obtain ⟨i, t, x, h1, h2, h3⟩ := q
    exact s.fresh m b ⟨i, t, x, h1, h2, (key i t x h1 h2).2 m b h3⟩
  · by_cases hb : b = a
    · subst hb; rw [upd_same]; simp
    · rw [upd_ne hb]; exact s.trk b q
  · obtain ⟨o', e1, e2, f⟩ := s.io i o q
    exact ⟨o', e1, e2, fun b x hx g => f b x hx ((key i _ x e1 (e2.trans hx)).2 true b g)⟩
  · obtain ⟨i, t, x, h1, h2, h3⟩ := q
    exact hn m ⟨i, t, x, h1, h2, (key i t x h1 h2).2 m a h3⟩
theorem AtE.push {K : KW} {ρ0 ρ : Rho} {σ0 σ : L2.St} {H G G' : Hp} {D : Addr} {acc : Kvs} {y z : V} {k : NestedKey} {d : PyData} (a : AtE K ρ σ G D acc) (s : Stp K ρ0 σ0 H ρ σ G) (hD : H D = none) (st : Stored K G (.ref D) y z acc k d G') (hz : (kPut acc k d).length ≤ sizeLine) :
    AtE K ρ σ G' D (kPut acc k d) ∧ Stp K ρ0 σ0 H ρ σ G' := by
  obtain ⟨b, u, u', e, hb, rfl, rep⟩ := stored_rep a.rep st hz
  cases e
  obtain ⟨s2, n2⟩ := s.pokeX (u' := u') hD a.no hb
  exact ⟨⟨n2, rep⟩, s2⟩
/-- a new dict behind a step -/
theorem AtE.start {K : KW} {ρ : Rho} {σ : L2.St} {H : Hp} {D : Addr} (h : Hold K ρ σ H) (hD : H D = none) : AtE K ρ σ (upd H D (dNil K.w D)) D [] ∧ Stp K ρ σ H ρ σ (upd H D (dNil K.w D)) := by
  have st := h.grow (same_new (o := dNil K.w D) hD) (szs_updX h.sz)
  refine ⟨⟨fun m q => ?_, D, [], rfl, upd_same, .nil, by simp, Nat.zero_le _⟩, st⟩
  obtain ⟨i, s, x, h1, h2, h3⟩ := q
  have ok := h.ok i s x h1 h2
  have stq := ok.stay (H' := upd H D (dNil K.w D)) ⟨fun _ _ e => same_new hD _ _ e, fun _ _ _ e => same_new hD _ _ e⟩ fun m b hb => by
    have t' := h.trk ⟨i, s, x, h1, h2, hb⟩
    rw [upd_ne]
    rintro rfl
    exact t' hD
  exact h.trk ⟨i, s, x, h1, h2, stq.2 m D h3⟩ hD
theorem dc_read {K : KW} {it : IM} {g : GM} {t : TM} {mk mv : VM} {vs : List Nat} {σ : L2.St} {H : Hp} {Q : VK} (h : tO K (oDc it g t mk mv vs) σ H Q) : tDcA K (tI K it) (tG K g vs) (tT K t) (tV K mk) (tV K mv) vs σ H Q := by
  obtain ⟨ρ, o, ρq, hh, em, k⟩ := h
  obtain ⟨⟨ds, ρ1⟩, e1, em⟩ := Option.bind_eq_some_iff.mp em
  obtain ⟨ρw, e2, em⟩ := Option.bind_eq_some_iff.mp em
  obtain ⟨⟨fin, ρf⟩, e3, em⟩ := Option.map_eq_some_iff.mp em
  cases em
  refine ⟨ρ, ds, ρ1, hh, e1, fun J H1 s1 fd D hD => ?_⟩
  obtain ⟨sw, nw⟩ := Stp.wipe s1.hold e2
  dsimp only at e3
  have wl : (L2.wipe σ vs).length = σ.length := wipe_length σ vs
  have H0w : Hold K ρw (L2.wipe σ vs) H1 := sw.hold.un wl fun i hi => wipe_out (nw i hi)
  obtain ⟨a0, st0⟩ := AtE.start H0w hD
  refine ⟨fun i n G => n = ds.length - i ∧ i ≤ ds.length ∧ ∃ ρt acc, Stp K ρw (L2.wipe σ vs) H1 ρt (L2.wipe σ vs) G ∧ AtE K ρt (L2.wipe σ vs) G D acc ∧ (∀ (j : Nat), ρt[j]? ≠ some Sl.un → j ∉ vs) ∧ compDct g t mk mv vs (ds.drop i) acc ρt = some (fin, ρf),
    ⟨ds.length, by simp, Nat.zero_le _, ρw, [], st0, a0, nw, by simpa using e3⟩, ?_⟩
  rintro i n G ⟨rfl, hi, ρt, acc, st, aD, nu, ec⟩
  by_cases hlt : i < ds.length
  · refine .inr ⟨fd.go i G st.stb hlt, fun G' => ∃ ρt acc, Stp K ρw (L2.wipe σ vs) H1 ρt (L2.wipe σ vs) G' ∧ AtE K ρt (L2.wipe σ vs) G' D acc ∧ (∀ (j : Nat), ρt[j]? ≠ some Sl.un → j ∉ vs) ∧ compDct g t mk mv vs (ds.drop (i + 1)) acc ρt = some (fin, ρf),
      fun G' q => ⟨ds.length - (i + 1), by omega, rfl, hlt, q⟩, fun x G' y => ?_⟩
    obtain ⟨sm, z, d, ed, rp⟩ := fd.yld i G x G' st.stb st.hold.sz hlt y
    have g0 := st.hold.grow sm z
    have st2 := st.trans g0
    have aD0 := aD.step g0
    rw [List.drop_eq_getElem_cons hlt] at ec
    rw [List.getElem?_eq_getElem hlt] at ed
    rw [Option.some.inj ed] at ec
    unfold compDct at ec
    obtain ⟨ρ2, g1, ec⟩ := Option.bind_eq_some_iff.mp ec
    obtain ⟨⟨b, ρ3⟩, g2, ec⟩ := Option.bind_eq_some_iff.mp ec
    refine ⟨ρt, d, ρ2, st2.hold, rp, g1, fun τ2 s2 w2 => ?_⟩
    have w2' : L2.wipe τ2 vs = L2.wipe σ vs := w2.trans (wipe_wipe σ vs)
    have close : ∀ {ρa ρb : Rho} {Ga : Hp} {ac : Kvs}, Stp K ρw (L2.wipe σ vs) H1 ρa τ2 Ga → AtE K ρa τ2 Ga D ac → wipeO ρa vs = some ρb →
        Stp K ρw (L2.wipe σ vs) H1 ρb (L2.wipe σ vs) Ga ∧ AtE K ρb (L2.wipe σ vs) Ga D ac ∧ ∀ (j : Nat), ρb[j]? ≠ some Sl.un → j ∉ vs := fun {ρa ρb Ga ac} sa aa eb => by
      obtain ⟨sb, nb⟩ := Stp.wipe sa.hold eb
      have hl' : (L2.wipe σ vs).length = τ2.length := wl.trans (wipe_eq.mp w2').1.symm
      have he' : ∀ (j : Nat), ρb[j]? ≠ some Sl.un → (L2.wipe σ vs)[j]? = τ2[j]? := fun j hj => by rw [wipe_out (nb j hj), (wipe_eq.mp w2').2 j (nb j hj)]
      exact ⟨(sa.trans sb).un rfl (fun _ _ => rfl) hl' he', (aa.step sb).un hl' he', nb⟩
    refine ⟨w2', ρ2, b, ρ3, s2.hold, g2, fun G3 s3 => ?_⟩
    have sA := st2.trans (s2.trans s3)
    have aA := aD0.step (s2.trans s3)
    cases b with
    | false =>
      simp only [Bool.false_eq_true, if_false] at ec ⊢
      obtain ⟨ρ4, e4, ec⟩ := Option.bind_eq_some_iff.mp ec
      obtain ⟨sB, aB, nB⟩ := close sA aA e4
      exact ⟨ρ4, acc, sB, aB, nB, ec⟩
    | true =>
      simp only [if_true] at ec ⊢
      obtain ⟨⟨kd, ρ4⟩, e4, ec⟩ := Option.bind_eq_some_iff.mp ec
      obtain ⟨⟨vd, ρ5⟩, e5, ec⟩ := Option.bind_eq_some_iff.mp ec
      obtain ⟨kk, e6, ec⟩ := Option.bind_eq_some_iff.mp ec
      dsimp only at ec
      by_cases hz : (kPut acc kk vd).length ≤ sizeLine
      · rw [if_pos hz] at ec
        obtain ⟨ρ6, e7, ec⟩ := Option.bind_eq_some_iff.mp ec
        refine ⟨ρ3, kd, ρ4, s3.hold, e4, fun y G4 s4 rk => ⟨ρ4, vd, ρ5, s4.hold, e5, fun w G5 s5 rv => ?_⟩⟩
        have sC := sA.trans (s4.trans s5)
        have aC := aA.step (s4.trans s5)
        refine ⟨acc, kk, vd, aC.rep, rp_key (Rp.stb s5.stb rk) e6, rv, hz, fun G6 sto => ?_⟩
        obtain ⟨aE, sE⟩ := aC.push sC hD sto hz
        obtain ⟨sB, aB, nB⟩ := close sE aE e7
        exact ⟨ρ6, _, sB, aB, nB, ec⟩
      · rw [if_neg hz] at ec; cases ec
  · have ei : i = ds.length := by omega
    subst ei
    refine .inl ⟨fd.stop _ G st.stb (Nat.le_refl _), ?_⟩
    rw [List.drop_length] at ec
    cases ec
    have s2 : Stp K ρw σ H1 ρf σ G := st.un wl.symm (fun j hj => (wipe_out (nw j hj)).symm) wl.symm fun j hj => (wipe_out (nu j hj)).symm
    have aD' := aD.un wl.symm fun j hj => (wipe_out (nu j hj)).symm
    refine k (.ref D) G (s1.trans (sw.trans s2)) ⟨aD'.rep, fun b hb => ?_⟩
    cases hb
    refine ⟨?_, aD'.no⟩
    cases e : H D with
    | none => rfl
    | some u => exact absurd hD (s1.trk D (by rw [e]; simp))
section
variable {X : Cx}
theorem oe_dc {kx vx tg iter : Expr} {ifs : List Expr} {scope : Scope} {own : List (Str × Nat)} {pos : Pos} {it : IM} {g : GM} {t : TM} {mk mv : VM} (hu : X.A.units + 9 < cLine) (hc : X.calm = true) (hN : X.N.Nodup) (ok : BlkOk X.N X.env.scope scope own) (hi : IE X tg iter it)
    (hg : ∀ (s : Shared) (H : Hp) (C : Addr) (cl : List (Str × Addr)) (fp : List Addr), GE (X.blk s H scope (compEnvC scope cl C X.env) fp) tg g (own.map (·.2)))
    (ht : ∀ (s : Shared) (H : Hp) (C : Addr) (cl : List (Str × Addr)) (fp : List Addr), BTs (X.blk s H scope (compEnvC scope cl C X.env) fp) ifs t)
    (hk : ∀ (s : Shared) (H : Hp) (C : Addr) (cl : List (Str × Addr)) (fp : List Addr), VE (X.blk s H scope (compEnvC scope cl C X.env) fp) kx mk)
    (hv : ∀ (s : Shared) (H : Hp) (C : Addr) (cl : List (Str × Addr)) (fp : List Addr), VE (X.blk s H scope (compEnvC scope cl C X.env) fp) vx mv)
    (hs : ∀ x, foldedSetIterable iter X.env x = pure x := by intro _; rfl) : OE X (.DictComp kx vx [⟨tg, iter, ifs, 0⟩] scope pos) (oDc it g t mk mv (own.map (·.2))) :=
  pem (pe_dcA (wi := tI X.kw it) (g := tG X.kw g (own.map (·.2))) (tt := tT X.kw t) (tk := tV X.kw mk) (tv := tV X.kw mv) hu hc hN ok hi hg ht hk hv hs) fun _ _ _ h => dc_read h
end
theorem u9 {k : Nat} {A : Around} (r : Room k A) : A.units + 9 < cLine := by have := u64 r; omega
end Vx
/-! Vx15: {k: v}; sorted of numbers, of a dict's numbers. -/
namespace Vx
open PySem PySem.Spec L2

/-! ### sorting numbers -/
def insI (x : Int) : List Int → List Int
  | [] => [x]
  | y :: ys => if x ≤ y then x :: y :: ys else y :: insI x ys
def sortI : List Int → List Int
  | [] => []
  | x :: xs => insI x (sortI xs)
theorem insI_perm (x : Int) : ∀ xs : List Int, (insI x xs).Perm (x :: xs)
  | [] => .refl _
  | y :: ys => by
    unfold insI
    split
    · exact .refl _
    · exact ((insI_perm x ys).cons y).trans (.swap _ _ _)
theorem sortI_perm : ∀ xs : List Int, (sortI xs).Perm xs
  | [] => .refl _
  | x :: xs => (insI_perm x _).trans ((sortI_perm xs).cons x)
theorem insI_sorted (x : Int) : ∀ {xs : List Int}, xs.Pairwise (· ≤ ·) → (insI x xs).Pairwise (· ≤ ·)
  | [], _ => by simp [insI]
  | y :: ys, h => by
    unfold insI
    rw [List.pairwise_cons] at h
    split
    · rename_i le
      rw [List.pairwise_cons, List.pairwise_cons]
      refine ⟨fun z hz => ?_, h⟩
      rcases List.mem_cons.mp hz with rfl | hz
      · exact le
      · exact Int.le_trans le (h.1 z hz)
    · rename_i le
      rw [List.pairwise_cons]
      refine ⟨fun z hz => ?_, insI_sorted x h.2⟩
      rcases List.mem_cons.mp ((insI_perm x ys).mem_iff.mp hz) with rfl | hz
      · omega
      · exact h.1 z hz
theorem sortI_sorted : ∀ xs : List Int, (sortI xs).Pairwise (· ≤ ·)
  | [] => .nil
  | x :: xs => insI_sorted x (sortI_sorted xs)
theorem sorted_unique : ∀ {xs ys : List Int}, xs.Perm ys → xs.Pairwise (· ≤ ·) → ys.Pairwise (· ≤ ·) → xs = ys
  | [], ys, p, _, _ => (List.Perm.nil_eq p)
  | x :: xs, [], p, _, _ => absurd p.length_eq (by simp)
  | x :: xs, y :: ys, p, h1, h2 => by
    rw [List.pairwise_cons] at h1 h2
    have e : x = y := by
      have hx : x ∈ y :: ys := p.mem_iff.mp (by simp)
      have hy : y ∈ x :: xs := p.mem_iff.mpr (by simp)
      rcases List.mem_cons.mp hx with e | hx
      · exact e
      · rcases List.mem_cons.mp hy with e | hy
        · exact e.symm
        · have a := h1.1 y hy
          have b := h2.1 x hx
          omega
    subst e
    rw [sorted_unique p.cons_inv h1.2 h2.2]
theorem sorted_is {xs ys : List Int} (p : ys.Perm xs) (h : ys.Pairwise (· ≤ ·)) : ys = sortI xs := sorted_unique (p.trans (sortI_perm xs).symm) h (sortI_sorted xs)
def gSorted : List PyData → Option (List PyData)
  | [.list ds] => (intsOf ds).map fun ns => (sortI ns).map .int
  | _ => none
theorem rpa_int {K : KW} {H : Hp} : ∀ {ds : List PyData} {ns : List Int} {xs : List V}, intsOf ds = some ns → RpA K H xs ds → xs = ns.map V.int
  | [], ns, xs, e, r => by cases e; cases r; rfl
  | d :: ds, ns, xs, e, r => by
    cases r with
    | cons r1 r2 =>
      cases d with
      | int i =>
        obtain ⟨ms, e1, rfl⟩ := Option.map_eq_some_iff.mp (show (intsOf ds).map (i :: ·) = some ns from e)
        rw [rpa_int e1 r2]
        cases r1
        rfl
      | _ => cases e
theorem ints_rpa {K : KW} {H : Hp} : ∀ ns : List Int, RpA K H (ns.map V.int) (ns.map .int)
  | [] => .nil
  | n :: ns => .cons (.int n) (ints_rpa ns)
theorem co_sorted {K : KW} : CallO K (rSortedI K.K) gSorted := by
  intro xs H ds es Q z bq e k
  unfold gSorted at e
  split at e
  · rename_i ds'
    obtain ⟨ns, e1, rfl⟩ := Option.map_eq_some_iff.mp e
    cases bq with
    | cons b t =>
      cases t
      obtain ⟨a, us, rfl, s, r⟩ := b.list
      have eu := rpa_int e1 r
      subst eu
      refine ⟨a, ns, rfl, s, fun ns' p hp hs hn => ?_⟩
      rw [sorted_is hp hs]
      exact k p _ _ (same_new hn) hn upd_same (ints_rpa _)
  · cases e
/-! ### the numbers that are a dict's keys -/
def numsOf : Kvs → Option (List Int)
  | [] => some []
  | (.num i, _) :: r => (numsOf r).map (i :: ·)
  | _ => none
theorem nums_get : ∀ {kvs : Kvs} {ns : List Int}, numsOf kvs = some ns → kvs.map (·.1) = ns.map NestedKey.num
  | [], ns, e => by cases e; rfl
  | (k, d) :: r, ns, e => by
    cases k with
    | num i =>
      obtain ⟨ms, e1, rfl⟩ := Option.map_eq_some_iff.mp (show (numsOf r).map (i :: ·) = some ns from e)
      simp [nums_get e1]
    | _ => cases e
def rSortDI (K : KW) : List V → Hp → VK → Prop := fun xs H Q => ∃ v kvs ns, xs = [v] ∧ ownRep K H v (.dct kvs) ∧ numsOf kvs = some ns ∧ ns.length < 64 ∧ ∀ p, H p = none → Q (.ref p) (upd H p (.lst ((sortI ns).map V.int)))
section
variable {X : Cx}
theorem call_sortDI (hcalm : X.calm = true) : CallR X (.builtin "sorted") (rSortDI X.kw) := by
  intro pins s σ H xs us Q I r ⟨v, kvs, ns, exs, rep, en, lt, q⟩
  subst exs
  obtain ⟨u, eu, rx⟩ := vals1 r
  subst eu
  obtain ⟨a, es, ev, lo, he, m, ents, nd, hl, hx⟩ := dict_at I rep
  subst ev
  cases rx
  obtain ⟨o, ar, ep, h1, h2, h3, h4⟩ := m.ob
  have hraw : s.heap.DictRaw a ar ep := ⟨o, h1, h2, h3⟩
  have ln : es.length = kvs.length := Paired.length ents
  have kn := nums_get en
  have kl : kvs.length = ns.length := by have := congrArg List.length kn; simpa using this
  have sz : ar.size = es.length := by rw [← Array.length_toList, h4, List.length_map]
  refine Calls.call_function_entry PyProof.Rows.kind_sorted PyProof.Rows.plain_sorted PyProof.Rows.entry_sorted (PyProof.Rows.args_sorted1 _) ?_
  unfold Builtin.«sorted»
  refine wpAny_bind (m := checkCount "sorted" 1 1 _) (wpAny_pure ?_)
  refine wpAny_bind (PySem.W.kdu_collect (A := X.A.in1) (KdlSrc.rawDict (es := ar) (ep := ep) lo) (I.ok.hd hcalm) hraw (by rw [sz]; exact hx) fun h' tk acc keep hacc => ?_)
  have al : acc.toList.length = ns.length := by rw [Array.length_toList, hacc.1]; omega
  have hints : PyProof.Rows.IntsAre acc.toList ns := ints_each al fun j w ew => by
    obtain ⟨hj, e2⟩ := hacc.2 j w (by rw [← Array.getElem?_toList]; exact ew)
    have hj' : j < es.length := by omega
    have e3 : ar[j] = entOf X.w es[j] := by
      have : ar.toList[j]? = (es.map (entOf X.w))[j]? := by rw [h4]
      rw [Array.getElem?_toList, Array.getElem?_eq_getElem hj, List.getElem?_map, List.getElem?_eq_getElem hj'] at this
      exact Option.some.inj this
    have hk : j < kvs.length := by omega
    obtain ⟨b, eb, er⟩ : ∃ b, kvs[j]? = some b ∧ EntR X.kw H es[j] b := ⟨kvs[j], List.getElem?_eq_getElem hk, by
      have : ∀ {l : List Ent} {mm : Kvs}, Ents X.kw H l mm → ∀ (j : Nat) (h1 : j < l.length) (h2 : j < mm.length), EntR X.kw H l[j] mm[j] := by
        intro l mm t
        induction t with
        | nil => intro j h1; exact absurd h1 (by simp)
        | @cons x y xs ys e t ih =>
          intro j g1 g2
          cases j with
          | zero => exact e
          | succ j => exact ih j (by simpa using g1) (by simpa using g2)
      exact this ents j hj' hk⟩
    have hns : j < ns.length := by omega
    have e5 : b.1 = .num ns[j] := by
      have : (kvs.map (·.1))[j]? = (ns.map NestedKey.num)[j]? := by rw [kn]
      rw [List.getElem?_map, eb, List.getElem?_map, List.getElem?_eq_getElem hns] at this
      exact Option.some.inj this
    obtain ⟨vk, rk, pk⟩ := er.krep
    rw [e5] at pk
    have pk : Rp X.kw H vk (.int ns[j]) := by simpa [NestedKey.data] using pk
    cases pk
    obtain ⟨t, et⟩ := rk
    refine ⟨ns[j], t, List.getElem?_eq_getElem hns, ?_⟩
    rw [e2, e3]
    exact et
  have I1 : Inv X pins σ H { s with heap := h', toks := tk } := I.kept keep
  refine wpAny_bind (wpAny_newList ?_ (by rw [al, sizeLine_eq]; omega))
  have ho : (h'.push (PyProof.Rows.seqObj "list" acc.toList.toArray 0)).get? h'.objs.size = some (PyProof.Rows.seqObj "list" acc.toList.toArray 0) := Heap.get?_push_size _ rfl
  show wpAny _ _ _ _ _ { s with heap := h'.push (PyProof.Rows.seqObj "list" acc.toList.toArray 0), toks := tk }
  refine wpAny_bind (wpAny_holding (wpAny_call_entry PyProof.Rows.slot_list_sort ⟨_, ho, rfl⟩ PyProof.Rows.entry_list_sort (PyProof.Rows.list_sort_tree (s := { s with heap := h'.push (PyProof.Rows.seqObj "list" acc.toList.toArray 0), toks := tk }) ho hints (by rw [al]; exact lt) fun out ys g1 g2 g3 => ⟨_, rfl, ?_⟩) (PyProof.Rows.args_list_sort _)))
  obtain ⟨e', he'⟩ := PyProof.Rows.sortedHeap_at (vs := acc.toList) (out := out) ho
  have eys := sorted_is g2 g3
  subst eys
  have hlen : ((sortI ns).map V.int).length ≤ sizeLine := by
    rw [List.length_map, (sortI_perm ns).length_eq]
    exact Nat.le_trans (Nat.le_of_lt lt) (by decide)
  refine wpAny_pure ⟨_, rfl, .ref h'.objs.size, upd H h'.objs.size (.lst ((sortI ns).map V.int)), I1.laid (t' := tk) (fun b u e => ?_) (Nat.le_refl _) (show ObjOk X.prog X.w _ _ _ (.lst ((sortI ns).map V.int)) from ⟨hlen, out.toList, e', vals_of_ints g1, by rw [Array.toArray_toList]; exact he'⟩), rfl, q _ (I1.hok.fresh (Nat.le_refl _))⟩
  have hb : b < h'.objs.size := Heap.lt_size e
  rw [PyProof.Rows.sortedHeap_old (Nat.ne_of_lt hb) (by rw [Heap.size_push]; exact Nat.lt_succ_of_lt hb)]
  exact Heap.get?_push_of_some _ e

def oSortDI (i : Nat) : OM := fun ρ => (dctAt ρ i).bind fun kvs => (numsOf kvs).bind fun ns => if ns.length < 64 then some (.lst ((sortI ns).map .int), ρ) else none
theorem oe_sortDI (hcalm : X.calm = true) (i : Nat) {x : Str} {p q pos : Pos} (hg : Gl X "sorted") (hm : X.mg "sorted" = none) (hb : bootBuiltins "sorted" = some (.builtin "sorted")) (hN : X.N[i]? = some x := by rfl)
    (hv : Vis X.env.scope x := by first | exact Or.inl rfl | exact Or.inr (Or.inl rfl) | exact Or.inr (Or.inr rfl)) (hd : (x == ("__debug__" : Str)) = false := by decide) (hcd : (x == ("__classdict__" : Str)) = false := by decide)
    (hs1 : starEach [.Name x q] X.env = (false, eval (.Name x q) X.env) :: starEach [] X.env := by rfl) (hpl : (backTo pos (starEach [] X.env)).any (·.1) = false := by rfl) : OE X (.Call (.Name "sorted" p) [.Name x q] [] pos) (oSortDI i) := by
  refine pem (pe_gh (pe_callB (call_sortDI hcalm) hg hm hb (pa_cons (pe_var hN hv hd hcd) pa_nil hs1) (by decide) (by decide) hs1 hpl)) fun σ H Q ⟨ρ, o, ρ', hh, em, k⟩ => ?_
  obtain ⟨kvs, e1, em⟩ := Option.bind_eq_some_iff.mp em
  obtain ⟨ns, e2, em⟩ := Option.bind_eq_some_iff.mp em
  by_cases hl : ns.length < 64
  · rw [if_pos hl] at em
    cases em
    obtain ⟨a, hσ, rep⟩ := hh.dct_at e1
    refine ⟨.ref a, hσ, .ref a, kvs, ns, rfl, rep, e2, hl, fun r hr z => .inl ?_⟩
    obtain ⟨s4, n4⟩ := newo_run (o := .lst ((sortI ns).map .int)) (.refl hh) (same_new hr) z ⟨r, _, rfl, upd_same, ints_rpa _⟩ (fun b hb => by cases hb; exact hr)
    exact k _ _ s4 n4
  · rw [if_neg hl] at em; cases em
/-! ### {k: v} -/
def oDisp1 (mk mv : VM) : OM := fun ρ => (mk ρ).bind fun p => (mv p.2).bind fun q => (keyD p.1).map fun k => (.dct [(k, q.1)], q.2)
theorem oe_disp1 {ek ev : Expr} {pos : Pos} {mk mv : VM} (hu : X.A.units + 9 < cLine) (hk : VE X ek mk) (hv : VE X ev mv) : OE X (.Dict [some ek] [ev] pos) (oDisp1 mk mv) := by
  refine ⟨fun pins s σ H Q I ⟨ρ, o, ρ', hh, em, k⟩ => ?_⟩
  obtain ⟨⟨kd, ρ1⟩, e1, em⟩ := Option.bind_eq_some_iff.mp em
  obtain ⟨⟨vd, ρ2⟩, e2, em⟩ := Option.bind_eq_some_iff.mp em
  obtain ⟨kk, e3, em⟩ := Option.map_eq_some_iff.mp em
  cases em
  have hn : H s.heap.objs.size = none := I.hok.fresh (Nat.le_refl _)
  have I1 : Inv X pins σ (upd H s.heap.objs.size (dNil X.w s.heap.objs.size)) { s with heap := s.heap.push { cls := .type "dict", data := .dict #[] } } :=
    I.laid (t' := s.toks) (fun _ _ q => Heap.get?_push_of_some _ q) (Nat.le_refl _) (rawDict_ok (beq_eq_false_iff_ne.mpr (Ne.symm (Nat.ne_of_lt I.big))) new_dict)
  obtain ⟨a0, st0⟩ := AtE.start hh hn
  refine wpAny_Dict_any rfl rfl (by simp) (by simp) (evalPairs_cons (thn (hk.run pins _ σ _ (fun v H2 => Stp X.kw ρ σ (upd H s.heap.objs.size (dNil X.w s.heap.objs.size)) ρ1 σ H2 ∧ Rp X.kw H2 v kd) I1 ⟨ρ, kd, ρ1, st0.hold, e1, fun v H2 s2 rk => ⟨s2, rk⟩⟩) fun u s2 ⟨kv, H2, I2, rk, st2, pk⟩ => ?_))
  refine wpAny_bind (thn (hv.run pins _ σ _ (fun v H3 => Stp X.kw ρ1 σ H2 ρ2 σ H3 ∧ Rp X.kw H3 v vd) I2 ⟨ρ1, vd, ρ2, st2.hold, e2, fun v H3 s3 rv => ⟨s3, rv⟩⟩) fun u2 s3 ⟨vv, H3, I3, rv, st3, pv⟩ => ?_)
  refine wpAny_bind (wpAny_standAt (wpAny_pure (evalPairs_nil ?_)))
  have sA := st0.trans (st2.trans st3)
  have aA := (a0.step (st2.trans st3))
  have z1 : (kPut [] kk vd).length ≤ sizeLine := by rw [sizeLine_eq]; simp [kPut]
  have key : wpAny (model X.prog X.w) X.A (dictSet s.heap.objs.size u u2) (fun _ s4 => ∃ H4, Inv X pins σ H4 s4 ∧ Stored X.kw H3 (.ref s.heap.objs.size) kv vv [] kk vd H4) X.xe s3 :=
    dictSet_ok hu I3 rk rv ⟨[], kk, vd, aA.rep, rp_key (Rp.stb st3.stb pk) e3, pv, z1, fun H4 sto => sto⟩
  unfold storeAll
  rw [List.forIn_cons]
  refine wpAny_bind (wpAny_bind (wpAny_mono key (fun _ s4 ⟨H4, I4, sto⟩ => wpAny_pure ?_) fun _ _ z => z))
  show wpAny _ _ (forIn [] PUnit.unit _) _ _ _
  rw [List.forIn_nil]
  refine wpAny_pure ?_
  obtain ⟨aE, sE⟩ := aA.push sA hn sto z1
  refine ⟨.ref s.heap.objs.size, H4, I4, rfl, k _ _ sE ⟨aE.rep, fun b hb => ?_⟩⟩
  cases hb
  exact ⟨hn, aE.no⟩
/-! ### list(d) -/
theorem ents_keys {K : KW} {H : Hp} : ∀ {es : List Ent} {kvs : Kvs}, Ents K H es kvs → ∃ ys, Vals ys (es.map (·.2.1)) ∧ RpA K H ys (kvs.map fun p => p.1.data)
  | [], _, .nil => ⟨[], .nil, .nil⟩
  | e :: es, p :: kvs, .cons h t => by
    obtain ⟨ys, v, r⟩ := ents_keys t
    obtain ⟨vk, rk, pk⟩ := h.krep
    exact ⟨vk :: ys, .cons rk v, .cons pk r⟩
def rListDA (K : KW) : List V → Hp → VK → Prop := fun xs H Q => ∃ v kvs, xs = [v] ∧ ownRep K H v (.dct kvs) ∧ ∀ p ys, H p = none → RpA K H ys (kvs.map fun q => q.1.data) → Q (.ref p) (upd H p (.lst ys))
theorem call_listDA (hcalm : X.calm = true) : CallR X (.type "list") (rListDA X.kw) := by
  intro pins s σ H xs us Q I r ⟨v, kvs, exs, rep, q⟩
  subst exs
  obtain ⟨u, eu, rx⟩ := vals1 r
  subst eu
  obtain ⟨a, es, ev, lo, he, m, ents, nd, hl, hx⟩ := dict_at I rep
  subst ev
  cases rx
  obtain ⟨o, ar, ep, h1, h2, h3, h4⟩ := m.ob
  have hraw : s.heap.DictRaw a ar ep := ⟨o, h1, h2, h3⟩
  have sz : ar.size = es.length := by rw [← Array.length_toList, h4, List.length_map]
  obtain ⟨ys, vy, ry⟩ := ents_keys ents
  refine PySem.W.kdl_call (KdlSrc.rawDict (es := ar) (ep := ep) lo) (I.ok.hd hcalm) hraw (by rw [sz]; exact hx) fun h' tk acc c keep hat hacc => ?_
  have ea : acc.toList = es.map (·.2.1) := by
    apply List.ext_getElem?
    intro j
    by_cases hj : j < es.length
    · have hja : j < acc.size := by rw [hacc.1]; omega
      obtain ⟨hi, e2⟩ := hacc.2 j acc[j] (Array.getElem?_eq_getElem hja)
      have e3 : ar[j] = entOf X.w es[j] := by
        have : ar.toList[j]? = (es.map (entOf X.w))[j]? := by rw [h4]
        rw [Array.getElem?_toList, Array.getElem?_eq_getElem hi, List.getElem?_map, List.getElem?_eq_getElem hj] at this
        exact Option.some.inj this
      rw [Array.getElem?_toList, Array.getElem?_eq_getElem hja, List.getElem?_map, List.getElem?_eq_getElem hj, e2, e3]
      rfl
    · rw [List.getElem?_eq_none (by rw [Array.length_toList, hacc.1]; omega), List.getElem?_eq_none (by rw [List.length_map]; omega)]
  have hlen : ys.length ≤ sizeLine := by rw [ry.length, List.length_map]; exact hl
  exact ⟨.ref s.heap.objs.size, upd H s.heap.objs.size (.lst ys), I.laid (t' := tk) keep (Nat.le_refl _) (show ObjOk X.prog X.w _ _ _ (.lst ys) from ⟨hlen, acc.toList, c, by rw [ea]; exact vy, by rw [Array.toArray_toList]; exact hat⟩), rfl, q _ ys (I.hok.fresh (Nat.le_refl _)) ry⟩
def oKeysD (i : Nat) : OM := fun ρ => (dctAt ρ i).map fun kvs => (.lst (kvs.map fun q => q.1.data), ρ)
theorem oe_keysD (hcalm : X.calm = true) (i : Nat) {x : Str} {p q pos : Pos} (hg : Gl X "list") (hm : X.mg "list" = none) (hb : bootBuiltins "list" = some (.type "list")) (hN : X.N[i]? = some x := by rfl)
    (hv : Vis X.env.scope x := by first | exact Or.inl rfl | exact Or.inr (Or.inl rfl) | exact Or.inr (Or.inr rfl)) (hd : (x == ("__debug__" : Str)) = false := by decide) (hcd : (x == ("__classdict__" : Str)) = false := by decide)
    (hs1 : starEach [.Name x q] X.env = (false, eval (.Name x q) X.env) :: starEach [] X.env := by rfl) (hpl : (backTo pos (starEach [] X.env)).any (·.1) = false := by rfl) : OE X (.Call (.Name "list" p) [.Name x q] [] pos) (oKeysD i) := by
  refine pem (pe_gh (pe_callTy (call_listDA hcalm) hg hm hb (pa_cons (pe_var hN hv hd hcd) pa_nil hs1) (by decide) (by decide) hs1 hpl)) fun σ H Q ⟨ρ, o, ρ', hh, em, k⟩ => ?_
  obtain ⟨kvs, e1, em⟩ := Option.map_eq_some_iff.mp em
  cases em
  obtain ⟨a, hσ, rep⟩ := hh.dct_at e1
  refine ⟨.ref a, hσ, .ref a, kvs, rfl, rep, fun r ys hr ry z => .inl ?_⟩
  obtain ⟨s4, n4⟩ := newo_run (o := .lst (kvs.map fun q => q.1.data)) (.refl hh) (same_new hr) z ⟨r, _, rfl, upd_same, ry.stb ⟨fun b ys q => same_new hr _ _ q, fun b o w q => same_new hr _ _ q⟩⟩ (fun b hb => by cases hb; exact hr)
  exact k _ _ s4 n4
end
end Vx
/-! Vx16: {k: v for .. for ..}. -/
namespace Vx
open PySem PySem.Spec L2

abbrev dc2 (kx vx t0 i0 t1 i1 : Expr) (f0 f1 : List Expr) (scope : Scope) (pos : Pos) : Expr := .DictComp kx vx [⟨t0, i0, f0, 0⟩, ⟨t1, i1, f1, 0⟩] scope pos
theorem dc2_out (kx vx t0 i0 t1 i1 : Expr) (f0 f1 : List Expr) (scope : Scope) (pos : Pos) (it acc : Value) (env : Env) : compTurn (dc2 kx vx t0 i0 t1 i1 f0 f1 scope pos) 0 it acc env = (do
      standAt i0.pos
      match ← pyNext it with
      | none => pure (.done .next)
      | some v =>
        letOwnedTupleGo t0 it v
        assign t0 env v
        let mut ok := true
        for c in f0 do
          if ok then ok ← isTrue c env (eval c env)
        if ok then
          let x ← eval i1 env
          standAt i1.pos
          let x ← foldedSetIterable i1 env x
          let _ ← runOwn (.compStart (dc2 kx vx t0 i0 t1 i1 f0 f1 scope pos) 1 (← holding [x] (pyIter x)) acc env) env
        again (.compLoop (dc2 kx vx t0 i0 t1 i1 f0 f1 scope pos) 0 it acc env)) := by rfl
theorem dc2_in (kx vx t0 i0 t1 i1 : Expr) (f0 f1 : List Expr) (scope : Scope) (pos : Pos) (it : Value) (D : Addr) (env : Env) : compTurn (dc2 kx vx t0 i0 t1 i1 f0 f1 scope pos) 1 it (.ref D) env = (do
      standAt i1.pos
      match ← pyNext it with
      | none => pure (.done .next)
      | some v =>
        letOwnedTupleGo t1 it v
        assign t1 env v
        let mut ok := true
        for c in f1 do
          if ok then ok ← isTrue c env (eval c env)
        if ok then
          (do
            let kv ← eval kx env
            let vv ← holding [kv] (eval vx env)
            standAt { kx.pos with endLine := vx.pos.endLine, endCol := vx.pos.endCol }
            holding [kv, vv] (dictSet D kv vv))
        again (.compLoop (dc2 kx vx t0 i0 t1 i1 f0 f1 scope pos) 1 it (.ref D) env)) := by rfl
section
variable {prog : Program} {w : World} {A : Around} {R : Result → Shared → Prop} {s : Shared} {kx vx t0 i0 t1 i1 : Expr} {f0 f1 : List Expr} {scope : Scope} {pos : Pos} {it acc : Value} {D : Addr} {env : Env}
abbrev testsOk (f : List Expr) (env : Env) : Sem Bool := forIn f true fun c r => if r = true then do let ok ← isTrue c env (eval c env); pure (ForInStep.yield ok) else pure (ForInStep.yield r)
theorem dc2_loop0 (hs : ∀ x, foldedSetIterable i1 env x = pure x) (I : Nat → Shared → Prop)
    (turn : ∀ n s, I n s → wpAny (model prog w) A (pyNext it) (fun r s₁ => match r with
      | none => R (.ok .next) s₁
      | some v => wpAny (model prog w) A (letOwnedTupleGo t0 it v) (fun _ s2 => wpAny (model prog w) A (assign t0 env v) (fun _ s3 => wpAny (model prog w) A (testsOk f0 env) (fun ok s4 =>
            if ok = true then wpAny (model prog w) A (eval i1 env) (fun x s5 => wpAny (model prog w) A (pyIter x) (fun it1 s6 => codeAny (model prog w) A (.compStart (dc2 kx vx t0 i0 t1 i1 f0 f1 scope pos) 1 it1 acc env) (fun r s' => match r with
                | .ok _ => ∃ m, m < n ∧ I m s'
                | .error _ => False) s6) (notedBy (model prog w) A env fun e s' => R (.error e) s') s5) (notedBy (model prog w) A env fun e s' => R (.error e) s') s4
            else ∃ m, m < n ∧ I m s4) (notedBy (model prog w) A env fun e s' => R (.error e) s') s3) (notedBy (model prog w) A env fun e s' => R (.error e) s') s2) (notedBy (model prog w) A env fun e s' => R (.error e) s') s₁) (notedBy (model prog w) A env fun e s' => R (.error e) s') s)
    (n : Nat) (h : I n s) : codeAny (model prog w) A (.compLoop (dc2 kx vx t0 i0 t1 i1 f0 f1 scope pos) 0 it acc env) R s := by
  refine codeAny_loop rfl I (fun n s hI => ?_) n h
  show wpAny _ A ((compTurn (dc2 kx vx t0 i0 t1 i1 f0 f1 scope pos) 0 it acc env).onRaise (fun x => do noteFrame x env; theTreesLotGoes x)) _ _ s
  refine wpAny_noted ?_
  rw [dc2_out]
  refine wpAny_bind (wpAny_standAt (wpAny_bind (wpAny_mono (turn n s hI) (fun r s1 h1 => ?_) fun _ _ z => z)))
  cases r with
  | none => exact wpAny_pure h1
  | some v =>
    refine wpAny_bind (wpAny_mono h1 (fun _ s2 h2 => wpAny_bind (wpAny_mono h2 (fun _ s3 h3 => wpAny_bind (wpAny_mono h3 (fun ok s4 h4 => ?_) fun _ _ z => z)) fun _ _ z => z)) fun _ _ z => z)
    cases ok with
    | false => exact wpAny_pure ⟨rfl, h4⟩
    | true =>
      refine wpAny_bind (wpAny_mono h4 (fun x s5 h5 => ?_) fun _ _ z => z)
      refine wpAny_bind (wpAny_standAt (wpAny_bind (wpAny_of_eq (hs x) (wpAny_bind (wpAny_holding (wpAny_mono h5 (fun it1 s6 h6 => ?_) fun _ _ z => z))))))
      refine wpAny_bind (wpAny_runOwn ?_)
      rw [Around.mark_none]
      refine codeAny_mono h6 fun r s' hr => ?_
      cases r with
      | ok f =>
        first
          | exact wpAny_pure ⟨rfl, hr⟩
          | exact wpAny_bind (wpAny_pure (wpAny_pure ⟨rfl, hr⟩))
      | error e => exact hr.elim
theorem dc2_loop1 (I : Nat → Shared → Prop)
    (turn : ∀ n s, I n s → wpAny (model prog w) A (pyNext it) (fun r s₁ => match r with
      | none => R (.ok .next) s₁
      | some v => wpAny (model prog w) A (letOwnedTupleGo t1 it v) (fun _ s2 => wpAny (model prog w) A (assign t1 env v) (fun _ s3 => wpAny (model prog w) A (testsOk f1 env) (fun ok s4 =>
            if ok = true then wpAny (model prog w) A (eval kx env) (fun kv s5 => wpAny (model prog w) A (eval vx env) (fun vv s6 => wpAny (model prog w) A (dictSet D kv vv) (fun _ s7 => ∃ m, m < n ∧ I m s7)
              (notedBy (model prog w) A env fun e s' => R (.error e) s') s6) (notedBy (model prog w) A env fun e s' => R (.error e) s') s5) (notedBy (model prog w) A env fun e s' => R (.error e) s') s4
            else ∃ m, m < n ∧ I m s4) (notedBy (model prog w) A env fun e s' => R (.error e) s') s3) (notedBy (model prog w) A env fun e s' => R (.error e) s') s2) (notedBy (model prog w) A env fun e s' => R (.error e) s') s₁) (notedBy (model prog w) A env fun e s' => R (.error e) s') s)
    (n : Nat) (h : I n s) : codeAny (model prog w) A (.compLoop (dc2 kx vx t0 i0 t1 i1 f0 f1 scope pos) 1 it (.ref D) env) R s := by
  refine codeAny_loop rfl I (fun n s hI => ?_) n h
  show wpAny _ A ((compTurn (dc2 kx vx t0 i0 t1 i1 f0 f1 scope pos) 1 it (.ref D) env).onRaise (fun x => do noteFrame x env; theTreesLotGoes x)) _ _ s
  refine wpAny_noted ?_
  rw [dc2_in]
  refine wpAny_bind (wpAny_standAt (wpAny_bind (wpAny_mono (turn n s hI) (fun r s1 h1 => ?_) fun _ _ z => z)))
  cases r with
  | none => exact wpAny_pure h1
  | some v =>
    refine wpAny_bind (wpAny_mono h1 (fun _ s2 h2 => wpAny_bind (wpAny_mono h2 (fun _ s3 h3 => wpAny_bind (wpAny_mono h3 (fun ok s4 h4 => ?_) fun _ _ z => z)) fun _ _ z => z)) fun _ _ z => z)
    cases ok with
    | false => exact wpAny_pure ⟨rfl, h4⟩
    | true => exact wpAny_bind (wpAny_bind (wpAny_mono h4 (fun kv s5 h5 => wpAny_bind (wpAny_holding (wpAny_mono h5 (fun vv s6 h6 => wpAny_bind (wpAny_standAt (wpAny_holding (wpAny_mono h6 (fun _ s7 h7 => wpAny_pure ⟨rfl, h7⟩) fun _ _ z => z)))) fun _ _ z => z))) fun _ _ z => z))
theorem dc2_start1 (h0 : codeAny (model prog w) A (.compLoop (dc2 kx vx t0 i0 t1 i1 f0 f1 scope pos) 1 it acc env) R s)
    (h : wpAny (model prog w) A (pyIter it) (fun it' s' => codeAny (model prog w) A (.compLoop (dc2 kx vx t0 i0 t1 i1 f0 f1 scope pos) 1 it' acc env) R s') (notedBy (model prog w) A env fun x s' => R (.error x) s') s) :
    codeAny (model prog w) A (.compStart (dc2 kx vx t0 i0 t1 i1 f0 f1 scope pos) 1 it acc env) R s := by
  refine codeAny_of_tree ?_
  show wpAny _ _ ((compStart (dc2 kx vx t0 i0 t1 i1 f0 f1 scope pos) 1 it acc env).onRaise (fun x => do noteFrame x env; standAt theWindowsPlace)) _ _ s
  refine wpAny_notedAt ?_
  unfold compStart
  show wpAny _ _ (ask >>= _) _ _ s
  refine wpAny_bind (wpAny_askSetting (wpAny_ite ?_))
  split
  · first
      | exact wpAny_bind (wpAny_pure (wpAny_pure (And.intro rfl h0)))
      | exact wpAny_pure (And.intro rfl h0)
  · first
      | exact wpAny_bind (wpAny_rule (wpAny_bind (wpAny_standAt (wpAny_bind (wpAny_mono h (fun it' s' h' => wpAny_pure (And.intro rfl h')) fun _ _ x => x)))))
      | (refine wpAny_bind (wpAny_rule ?_); show wpAny _ _ (standAt i1.pos >>= _) _ _ s; exact wpAny_bind (wpAny_standAt (wpAny_bind (wpAny_mono h (fun it' s' h' => wpAny_pure (And.intro rfl h')) fun _ _ x => x))))
end

/-- a dict built by two walks: D is the new one -/
def tDcA2 (K : KW) (wi : TI) (g : TG) (tt : TT) (wi1 : TI) (g1 : TG) (tt1 : TT) (tk tv : TE) (vs vs1 : List Nat) : TE := fun σ H Q => wi σ H fun J H1 => ∀ D, H1 D = none → ∃ W : Nat → Nat → Hp → Prop, (∃ m, W 0 m (upd H1 D (dNil K.w D))) ∧ ∀ i m G, W i m G →
  (J.stop i G ∧ Q (.ref D) G) ∨ (J.go i G ∧ ∃ Nx : Hp → Prop, (∀ G', Nx G' → ∃ m', m' < m ∧ W (i + 1) m' G') ∧ ∀ x G', J.yld i G x G' → g x (L2.wipe σ vs) G' fun σ2 G2 => L2.wipe σ2 vs = L2.wipe σ vs ∧ tt σ2 G2 fun b G3 =>
    if b = true then wi1 σ2 G3 fun J1 G4 => ∃ W1 : Nat → Nat → Hp → Prop, (∃ m, W1 0 m G4) ∧ ∀ j n G, W1 j n G →
      (J1.stop j G ∧ Nx G) ∨ (J1.go j G ∧ ∃ Nx1 : Hp → Prop, (∀ G', Nx1 G' → ∃ n', n' < n ∧ W1 (j + 1) n' G') ∧ ∀ x G', J1.yld j G x G' → g1 x (L2.wipe σ2 vs1) G' fun σ3 G5 => L2.wipe σ3 vs1 = L2.wipe σ2 vs1 ∧ tt1 σ3 G5 fun b G6 =>
        if b = true then tk σ3 G6 fun y G7 => tv σ3 G7 fun z G8 => rDPut K (.ref D) y z G8 Nx1 else Nx1 G6)
    else Nx G3)
section
variable {X : Cx}
theorem pe_dcA2 {kx vx tg iter tg1 iter1 : Expr} {ifs ifs1 : List Expr} {scope : Scope} {own : List (Str × Nat)} {vs1 : List Nat} {pos : Pos} {wi wi1 : TI} {g g1 : TG} {tt tt1 : TT} {tk tv : TE} (hu : X.A.units + 9 < cLine) (hc : X.calm = true) (hN : X.N.Nodup) (ok : BlkOk X.N X.env.scope scope own) (hsub : ∀ i ∈ vs1, i ∈ own.map (·.2)) (hi : PI X tg iter wi)
    (hg : ∀ (s : Shared) (H : Hp) (C : Addr) (cl : List (Str × Addr)) (fp : List Addr), PG (X.blk s H scope (compEnvC scope cl C X.env) fp) tg g)
    (ht : ∀ (s : Shared) (H : Hp) (C : Addr) (cl : List (Str × Addr)) (fp : List Addr), PTs (X.blk s H scope (compEnvC scope cl C X.env) fp) ifs tt)
    (hi1 : ∀ (s : Shared) (H : Hp) (C : Addr) (cl : List (Str × Addr)) (fp : List Addr), PI (X.blk s H scope (compEnvC scope cl C X.env) fp) tg1 iter1 wi1)
    (hg1 : ∀ (s : Shared) (H : Hp) (C : Addr) (cl : List (Str × Addr)) (fp : List Addr), PG (X.blk s H scope (compEnvC scope cl C X.env) fp) tg1 g1)
    (ht1 : ∀ (s : Shared) (H : Hp) (C : Addr) (cl : List (Str × Addr)) (fp : List Addr), PTs (X.blk s H scope (compEnvC scope cl C X.env) fp) ifs1 tt1)
    (hk : ∀ (s : Shared) (H : Hp) (C : Addr) (cl : List (Str × Addr)) (fp : List Addr), PE (X.blk s H scope (compEnvC scope cl C X.env) fp) kx tk)
    (hv : ∀ (s : Shared) (H : Hp) (C : Addr) (cl : List (Str × Addr)) (fp : List Addr), PE (X.blk s H scope (compEnvC scope cl C X.env) fp) vx tv)
    (hs : ∀ x, foldedSetIterable iter X.env x = pure x := by intro _; rfl) (hs1 : ∀ env x, foldedSetIterable iter1 env x = pure x := by intro _ _; rfl) :
    PE X (.DictComp kx vx [⟨tg, iter, ifs, 0⟩, ⟨tg1, iter1, ifs1, 0⟩] scope pos) (tDcA2 X.kw wi g tt wi1 g1 tt1 tk tv (own.map (·.2)) vs1) := by
  refine ⟨fun pins s σ H Q I h => ?_⟩
  rw [arm_eval_DictComp]
  have free_ok : ∀ y ∈ scope.names, y.2 = .free → ∃ c, X.env.cells.lookup y.1 = some c := fun y hy e => (ok.free y hy e).elim (fun k => I.ok.has _ (.inl k)) fun k => I.ok.has _ (.inr k)
  refine wpAny_comprehension_free (use := none) rfl hs (closure_ok free_ok) ok.kind (fun y hy e => by rw [ok.uniq y hy, e]) (thn (hi.run pins s σ H _ I h) fun v0 s1 h1 => thn h1 fun v1 s2 ⟨it, fp, tn, J, H2, ev, I2, T, st2, f2, q⟩ => ?_)
  subst ev
  refine wpAny_newObj_type (newEnv_comp ?_)
  generalize hD : s2.heap.objs.size = D
  have nD : H2 D = none := I2.hok.fresh (Nat.le_of_eq hD)
  obtain ⟨W, ⟨m0, w0⟩, turn⟩ := q D nD
  generalize e3 : ({ s2 with heap := s2.heap.push { cls := .type "dict", data := .dict #[] } } : Shared) = s3
  have p3 : s3.heap = s2.heap.push { cls := .type "dict", data := .dict #[] } := by rw [← e3]
  generalize eH : upd H2 D (dNil X.w D) = H3 at w0
  have I3 : Inv X pins σ H3 s3 := by
    rw [← e3, ← eH]
    refine I2.laid (t' := s2.toks) (fun b o e => Heap.get?_push_of_some _ e) (Nat.le_of_eq hD) ?_
    rw [← hD]
    exact rawDict_ok (beq_eq_false_iff_ne.mpr (Ne.symm (Nat.ne_of_lt I2.big))) new_dict
  have lt3 : ∀ b ∈ fp, b < s2.heap.objs.size := fun b hb => let ⟨o, e, _⟩ := T.obj _ _ st2 b hb; Heap.lt_size e
  have f3 : ∀ b ∈ fp, FpOk X pins H3 b ∧ b < s3.heap.objs.size := fun b hb => by
    refine ⟨⟨?_, (f2 b hb).2⟩, by rw [p3, Heap.size_push]; exact Nat.lt_succ_of_lt (lt3 b hb)⟩
    rw [← eH, upd_ne (by rw [← hD]; exact Nat.ne_of_lt (lt3 b hb))]
    exact (f2 b hb).1
  have st3 : tn 0 s3.heap := T.keep _ _ _ st2 fun b _ o e => by rw [p3]; exact Heap.get?_push_of_some _ e
  have I4 := block_start I3 ok hN f3
  show codeAny _ _ (.compStart (dc2 kx vx tg iter tg1 iter1 ifs ifs1 scope pos) 0 (.ref it) (.ref D) (compEnvC scope (cellsFrom (s3.heap.objs.size + 1) scope.names (cloFrom X.env.cells scope.names [])) s3.heap.objs.size X.env)) (compPost (model X.prog X.w) X.A X.xe none (EP X pins σ Q) (.ref D) s3.heap.objs.size) { s3 with heap := pushCells (s3.heap.push { cls := .type "dict", data := .dict #[] }) scope.names }
  generalize hcl : cellsFrom (s3.heap.objs.size + 1) scope.names (cloFrom X.env.cells scope.names []) = cl at I4 ⊢
  have pg := hg s3 H3 s3.heap.objs.size cl fp
  have pt := ht s3 H3 s3.heap.objs.size cl fp
  have pi1 := hi1 s3 H3 s3.heap.objs.size cl fp
  have pg1 := hg1 s3 H3 s3.heap.objs.size cl fp
  have pt1 := ht1 s3 H3 s3.heap.objs.size cl fp
  have pk := hk s3 H3 s3.heap.objs.size cl fp
  have pv := hv s3 H3 s3.heap.objs.size cl fp
  have nfp : ∀ b ∈ fp, H3 b = none := fun b hb => (f3 b hb).1.1
  generalize hce : compEnvC scope cl s3.heap.objs.size X.env = ce at I4 pg pt pi1 pg1 pt1 pk pv ⊢
  have cL : ce.locals = s3.heap.objs.size := by rw [← hce]; rfl
  generalize e4 : ({ s3 with heap := pushCells (s3.heap.push { cls := .type "dict", data := .dict #[] }) scope.names } : Shared) = s4 at I4 ⊢
  have st4 : tn 0 s4.heap := T.keep _ _ _ st3 fun b _ o e => by rw [← e4]; exact pushCells_keeps _ _ _ _ (Heap.get?_push_of_some _ e)
  have stat : ∀ {τ : L2.St} {G : Hp} {s' : Shared}, Inv (X.blk s3 H3 scope ce fp) [] τ G s' → (∀ b ∈ fp, G b = none) → ∀ b ∈ fp, FpOk (X.blk s3 H3 scope ce fp) [] G b := fun {τ G s'} I' hn b hb =>
    ⟨hn b hb, (I'.ok.exf b hb).1, I'.ok.exfs b hb, .inl hb, fun x c e => (I'.ok.exf b hb).2 x c e, fun p hp => absurd (show p ∈ ([] : List (Addr × Obj)) ++ [] from hp) (by simp)⟩
  have loop : codeAny (model X.prog X.w) X.A (.compLoop (dc2 kx vx tg iter tg1 iter1 ifs ifs1 scope pos) 0 (.ref it) (.ref D) ce) (compPost (model X.prog X.w) X.A X.xe none (EP X pins σ Q) (.ref D) s3.heap.objs.size) s4 := by
    refine dc2_loop0 (hs1 ce) (fun n s' => ∃ i G, Inv (X.blk s3 H3 scope ce fp) [] (L2.wipe σ (own.map (·.2))) G s' ∧ tn i s'.heap ∧ (∀ b ∈ fp, G b = none) ∧ W i n G) ?_ m0 ⟨0, H3, I4, st4, nfp, w0⟩
    rintro n s5 ⟨i, H5, I5, st5, n5, w5⟩
    rcases turn i n H5 w5 with ⟨stop, qq⟩ | ⟨go, Nx, hNx, step⟩
    · refine thnF (T.done (X.blk s3 H3 scope ce fp) rfl rfl rfl hc i [] s5 _ H5 (fun _ _ => False) I5 (stat I5 n5) st5 stop) fun r s6 hr => ?_
      obtain ⟨rfl, I6⟩ := hr
      have I7 : Inv X pins σ H5 s6 := I3.call' (ch := fp) I6.os I6.base I6.hok I6.bare fun b hb => ⟨(f3 b hb).1.2.2.2.1, (f3 b hb).1.2.1, (f3 b hb).1.2.2.2.2.1, (f3 b hb).1.2.2.2.2.2⟩
      have nC : H5 s3.heap.objs.size = none := by rw [← cL]; exact I6.free
      obtain ⟨m, hn, _⟩ := I6.loc
      refine ⟨m, by rw [← cL]; exact hn, fun h'' sb => ?_⟩
      obtain ⟨g0, g1, g2, g3, g4, g5⟩ := I3.fpOk (Nat.le_refl _) nC
      exact ⟨.ref D, H5, I7.turned (t' := s6.toks) (fun b o hb e => (sb.2 b hb).trans e) g0 g1 g3 g4 g5, rfl, qq⟩
    · refine thnF (T.item (X.blk s3 H3 scope ce fp) rfl rfl rfl hc i [] s5 _ H5 (fun _ _ => False) I5 (stat I5 n5) st5 go) fun r s6 hr => ?_
      obtain ⟨u, rfl, h6⟩ := hr
      refine thnF h6 fun _ s7 h7 => ?_
      obtain ⟨x, H7, I7, r7, y7, st7, n7⟩ := h7
      refine thnF (pg.run _ s7 _ H7 x u _ (I7.pinned (stat I7 n7) (T.obj _ _ st7)) r7 (step x H7 y7)) fun _ s8 h8 => ?_
      obtain ⟨σ8, H8, I8, hw8, q8⟩ := h8
      refine thnF (pt.run _ s8 σ8 H8 _ I8 q8) fun b s9 h9 => ?_
      obtain ⟨H9, I9, q9⟩ := h9
      have fin : ∀ {σ9 : L2.St} {s' : Shared} {G : Hp}, Inv (X.blk s3 H3 scope ce fp) ([] ++ pinsAt fp s7.heap) σ9 G s' → (L2.wipe σ (own.map (·.2))).length = σ9.length → (∀ (j : Nat) v, (L2.wipe σ (own.map (·.2)))[j]? = some (some v) → σ9[j]? = some (some v)) → Nx G →
          ∃ m, m < n ∧ ∃ i G, Inv (X.blk s3 H3 scope ce fp) [] (L2.wipe σ (own.map (·.2))) G s' ∧ tn i s'.heap ∧ (∀ b ∈ fp, G b = none) ∧ W i m G := fun {σ9 s' G} I' hl hk nx => by
        obtain ⟨m', hm, w'⟩ := hNx G nx
        have keep : ∀ b ∈ fp, ∀ o, s7.heap.get? b = some o → s'.heap.get? b = some o ∧ G b = none := fun b hb o e =>
          let z := I'.pin (b, o) (List.mem_append_right _ (List.mem_append_right _ (mem_pinsAt hb e))); ⟨z.1, z.2.1⟩
        refine ⟨m', hm, i + 1, G, (I'.unpinned (pins := [])).weak hl hk, T.keep _ _ _ st7 fun b hb o e => (keep b hb o e).1, fun b hb => ?_, w'⟩
        obtain ⟨o, e, _⟩ := T.obj _ _ st7 b hb; exact (keep b hb o e).2
      have hl8 : (L2.wipe σ (own.map (·.2))).length = σ8.length := by rw [← hw8, wipe_length]
      have hk8 : ∀ (j : Nat) v, (L2.wipe σ (own.map (·.2)))[j]? = some (some v) → σ8[j]? = some (some v) := fun j v e => by
        rw [← hw8] at e; exact (wipe_some e).1
      have hk9 : ∀ (j : Nat) v, (L2.wipe σ (own.map (·.2)))[j]? = some (some v) → (L2.wipe σ8 vs1)[j]? = some (some v) := fun j v e => by
        rw [← hw8] at e
        obtain ⟨e1, e2⟩ := wipe_some e
        rw [Vx.wipe_out fun z => e2 (hsub j z)]; exact e1
      cases b with
      | false =>
        simp only [Bool.false_eq_true, if_false] at q9 ⊢
        exact fin I9 hl8 hk8 q9
      | true =>
        simp only [if_true] at q9 ⊢
        refine thnF (pi1.run _ s9 σ8 H9 _ I9 q9) fun xv s10 hx => thnF hx fun itv s11 h11 => ?_
        obtain ⟨it1, fp1, tn1, J1, H11, ev1, I11, T1, st11, f11, W1, ⟨m1, w1⟩, turn1⟩ := h11
        subst ev1
        have stat1 : ∀ {G : Hp}, (∀ b ∈ fp1, G b = none) → ∀ b ∈ fp1, FpOk (X.blk s3 H3 scope ce fp) ([] ++ pinsAt fp s7.heap) G b := fun hn b hb => ⟨hn b hb, (f11 b hb).2⟩
        have loop1 : codeAny (model X.prog X.w) X.A (.compLoop (dc2 kx vx tg iter tg1 iter1 ifs ifs1 scope pos) 1 (.ref it1) (.ref D) ce) (fun r s' => match r with
              | .ok _ => ∃ m, m < n ∧ ∃ i G, Inv (X.blk s3 H3 scope ce fp) [] (L2.wipe σ (own.map (·.2))) G s' ∧ tn i s'.heap ∧ (∀ b ∈ fp, G b = none) ∧ W i m G
              | .error _ => False) s11 := by
          refine dc2_loop1 (fun k s' => ∃ j G, Inv (X.blk s3 H3 scope ce fp) ([] ++ pinsAt fp s7.heap) (L2.wipe σ8 vs1) G s' ∧ tn1 j s'.heap ∧ (∀ b ∈ fp1, G b = none) ∧ W1 j k G) ?_ m1 ⟨0, H11, I11.weak (wipe_length _ _) (fun j v e => (wipe_some e).1), st11, fun b hb => (f11 b hb).1, w1⟩
          rintro k s12 ⟨j, H12, I12, st12, n12, w12⟩
          rcases turn1 j k H12 w12 with ⟨stop1, nx1⟩ | ⟨go1, Nx1, hNx1, step1⟩
          · refine thnF (T1.done (X.blk s3 H3 scope ce fp) rfl rfl rfl hc j _ s12 (L2.wipe σ8 vs1) H12 (fun _ _ => False) I12 (stat1 n12) st12 stop1) fun r s13 hr => ?_
            obtain ⟨rfl, I13⟩ := hr
            exact fin I13 (hl8.trans (wipe_length σ8 vs1).symm) hk9 nx1
          · refine thnF (T1.item (X.blk s3 H3 scope ce fp) rfl rfl rfl hc j _ s12 (L2.wipe σ8 vs1) H12 (fun _ _ => False) I12 (stat1 n12) st12 go1) fun r s13 hr => ?_
            obtain ⟨u1, rfl, h13⟩ := hr
            refine thnF h13 fun _ s14 h14 => ?_
            obtain ⟨x1, H14, I14, r14, y14, st14, n14⟩ := h14
            refine thnF (pg1.run _ s14 (L2.wipe σ8 vs1) H14 x1 u1 _ (I14.pinned (stat1 n14) (T1.obj _ _ st14)) r14 (step1 x1 H14 y14)) fun _ s15 h15 => ?_
            obtain ⟨σ15, H15, I15, hw15, q15⟩ := h15
            refine thnF (pt1.run _ s15 σ15 H15 _ I15 q15) fun b1 s16 h16 => ?_
            obtain ⟨H16, I16, q16⟩ := h16
            have fin1 : ∀ {s' : Shared} {G : Hp}, Inv (X.blk s3 H3 scope ce fp) (([] ++ pinsAt fp s7.heap) ++ pinsAt fp1 s14.heap) σ15 G s' → Nx1 G → ∃ m, m < k ∧ ∃ j G, Inv (X.blk s3 H3 scope ce fp) ([] ++ pinsAt fp s7.heap) (L2.wipe σ8 vs1) G s' ∧ tn1 j s'.heap ∧ (∀ b ∈ fp1, G b = none) ∧ W1 j m G := fun {s' G} I' nx => by
              obtain ⟨m', hm, w'⟩ := hNx1 G nx
              have keep : ∀ b ∈ fp1, ∀ o, s14.heap.get? b = some o → s'.heap.get? b = some o ∧ G b = none := fun b hb o e =>
                let z := I'.pin (b, o) (List.mem_append_right _ (List.mem_append_right _ (mem_pinsAt hb e))); ⟨z.1, z.2.1⟩
              refine ⟨m', hm, j + 1, G, I'.unpinned.weak (by rw [← hw15, wipe_length]) (fun j v e => by rw [← hw15] at e; exact (wipe_some e).1), T1.keep _ _ _ st14 fun b hb o e => (keep b hb o e).1, fun b hb => ?_, w'⟩
              obtain ⟨o, e, _⟩ := T1.obj _ _ st14 b hb; exact (keep b hb o e).2
            cases b1 with
            | false =>
              simp only [Bool.false_eq_true, if_false] at q16 ⊢
              exact fin1 I16 q16
            | true =>
              simp only [if_true] at q16 ⊢
              refine thnF (pk.run _ s16 σ15 H16 _ I16 q16) fun u2 s17 h17 => ?_
              obtain ⟨yk, H17, I17, r17, q17⟩ := h17
              refine thnF (pv.run _ s17 σ15 H17 _ I17 q17) fun u3 s18 h18 => ?_
              obtain ⟨yv, H18, I18, r18, put⟩ := h18
              exact wpAny_mono (dictSet_ok (X := X.blk s3 H3 scope ce fp) hu I18 r17 r18 put) (fun _ s19 ⟨H19, I19, nx⟩ => fin1 I19 nx) fun _ _ z => z
        exact dc2_start1 loop1 (T1.self X.A 0 _ _ _ st11 loop1)
  exact codeAny_compStart_dict loop (T.self X.A 0 _ _ _ st4 loop)
end

def compDct2 (g : GM) (t : TM) (it1 : IM) (g1 : GM) (t1 : TM) (mk mv : VM) (vs vs1 : List Nat) : List PyData → Kvs → Rho → Option (Kvs × Rho)
  | [], acc, ρ => some (acc, ρ)
  | d :: ds, acc, ρ => (g d ρ).bind fun ρ1 => (t ρ1).bind fun p => if p.1 = true then
        (it1 p.2).bind fun q => (wipeO q.2 vs1).bind fun ρ2 => (compDct g1 t1 mk mv vs1 q.1 acc ρ2).bind fun r => (wipeO r.2 vs).bind fun ρ3 => compDct2 g t it1 g1 t1 mk mv vs vs1 ds r.1 ρ3
      else (wipeO p.2 vs).bind fun ρ2 => compDct2 g t it1 g1 t1 mk mv vs vs1 ds acc ρ2
def oDc2 (it : IM) (g : GM) (t : TM) (it1 : IM) (g1 : GM) (t1 : TM) (mk mv : VM) (vs vs1 : List Nat) : OM := fun ρ => (it ρ).bind fun p => (wipeO p.2 vs).bind fun ρw => (compDct2 g t it1 g1 t1 mk mv vs vs1 p.1 [] ρw).map fun r => (.dct r.1, r.2)
theorem dc2_read {K : KW} {it it1 : IM} {g g1 : GM} {t t1 : TM} {mk mv : VM} {vs vs1 : List Nat} {σ : L2.St} {H : Hp} {Q : VK} (hsub : ∀ i ∈ vs1, i ∈ vs) (h : tO K (oDc2 it g t it1 g1 t1 mk mv vs vs1) σ H Q) (is : List Nat) (his : ∀ i ∈ is, i ∈ vs) :
    tDcA2 K (tI K it) (tG K g is) (tT K t) (tI K it1) (tG K g1 vs1) (tT K t1) (tV K mk) (tV K mv) vs vs1 σ H Q := by
  obtain ⟨ρ, o, ρq, hh, em, k⟩ := h
  obtain ⟨⟨ds, ρ1⟩, e1, em⟩ := Option.bind_eq_some_iff.mp em
  obtain ⟨ρw, e2, em⟩ := Option.bind_eq_some_iff.mp em
  obtain ⟨⟨fin, ρf⟩, e3, em⟩ := Option.map_eq_some_iff.mp em
  cases em
  refine ⟨ρ, ds, ρ1, hh, e1, fun J H1 s1 fd D hD => ?_⟩
  obtain ⟨sw, nw⟩ := Stp.wipe s1.hold e2
  dsimp only at e3
  have wl : (L2.wipe σ vs).length = σ.length := wipe_length σ vs
  have H0w : Hold K ρw (L2.wipe σ vs) H1 := sw.hold.un wl fun i hi => Vx.wipe_out (nw i hi)
  obtain ⟨a0, st0⟩ := AtE.start H0w hD
  refine ⟨fun i n G => n = ds.length - i ∧ i ≤ ds.length ∧ ∃ ρt acc, Stp K ρw (L2.wipe σ vs) H1 ρt (L2.wipe σ vs) G ∧ AtE K ρt (L2.wipe σ vs) G D acc ∧ (∀ (j : Nat), ρt[j]? ≠ some Sl.un → j ∉ vs) ∧ compDct2 g t it1 g1 t1 mk mv vs vs1 (ds.drop i) acc ρt = some (fin, ρf),
    ⟨ds.length, by simp, Nat.zero_le _, ρw, [], st0, a0, nw, by simpa using e3⟩, ?_⟩
  rintro i n G ⟨rfl, hi, ρt, acc, st, aD, nu, ec⟩
  by_cases hlt : i < ds.length
  · refine .inr ⟨fd.go i G st.stb hlt, fun G' => ∃ ρt acc, Stp K ρw (L2.wipe σ vs) H1 ρt (L2.wipe σ vs) G' ∧ AtE K ρt (L2.wipe σ vs) G' D acc ∧ (∀ (j : Nat), ρt[j]? ≠ some Sl.un → j ∉ vs) ∧ compDct2 g t it1 g1 t1 mk mv vs vs1 (ds.drop (i + 1)) acc ρt = some (fin, ρf),
      fun G' q => ⟨ds.length - (i + 1), by omega, rfl, hlt, q⟩, fun x G' y => ?_⟩
    obtain ⟨sm, z, d, ed, rp⟩ := fd.yld i G x G' st.stb st.hold.sz hlt y
    have g0 := st.hold.grow sm z
    have st2 := st.trans g0
    have aD0 := aD.step g0
    rw [List.drop_eq_getElem_cons hlt] at ec
    rw [List.getElem?_eq_getElem hlt] at ed
    rw [Option.some.inj ed] at ec
    unfold compDct2 at ec
    obtain ⟨ρ2, q1, ec⟩ := Option.bind_eq_some_iff.mp ec
    obtain ⟨⟨b, ρ3⟩, q2, ec⟩ := Option.bind_eq_some_iff.mp ec
    refine ⟨ρt, d, ρ2, st2.hold, rp, q1, fun τ2 s2 w2 => ?_⟩
    have w2' : L2.wipe τ2 vs = L2.wipe σ vs := (wipe_mono w2 his).trans (wipe_wipe σ vs)
    have close : ∀ {ρa ρb : Rho} {Ga : Hp} {τ : L2.St} {ac : Kvs}, L2.wipe τ vs = L2.wipe σ vs → Stp K ρw (L2.wipe σ vs) H1 ρa τ Ga → AtE K ρa τ Ga D ac → wipeO ρa vs = some ρb →
        Stp K ρw (L2.wipe σ vs) H1 ρb (L2.wipe σ vs) Ga ∧ AtE K ρb (L2.wipe σ vs) Ga D ac ∧ ∀ (j : Nat), ρb[j]? ≠ some Sl.un → j ∉ vs := fun {ρa ρb Ga τ ac} wt sa aa eb => by
      obtain ⟨sb, nb⟩ := Stp.wipe sa.hold eb
      have hl' : (L2.wipe σ vs).length = τ.length := wl.trans (wipe_eq.mp wt).1.symm
      have he' : ∀ (j : Nat), ρb[j]? ≠ some Sl.un → (L2.wipe σ vs)[j]? = τ[j]? := fun j hj => by rw [Vx.wipe_out (nb j hj), (wipe_eq.mp wt).2 j (nb j hj)]
      exact ⟨(sa.trans sb).un rfl (fun _ _ => rfl) hl' he', (aa.step sb).un hl' he', nb⟩
    refine ⟨w2', ρ2, b, ρ3, s2.hold, q2, fun G3 s3 => ?_⟩
    cases b with
    | false =>
      simp only [Bool.false_eq_true, if_false] at ec ⊢
      obtain ⟨ρ4, e4, ec⟩ := Option.bind_eq_some_iff.mp ec
      obtain ⟨sB, aB, nB⟩ := close w2' (st2.trans (s2.trans s3)) (aD0.step (s2.trans s3)) e4
      exact ⟨ρ4, acc, sB, aB, nB, ec⟩
    | true =>
      simp only [if_true] at ec ⊢
      obtain ⟨⟨ds1, ρ4⟩, e4, ec⟩ := Option.bind_eq_some_iff.mp ec
      obtain ⟨ρ5, e5, ec⟩ := Option.bind_eq_some_iff.mp ec
      obtain ⟨⟨acc1, ρ6⟩, e6, ec⟩ := Option.bind_eq_some_iff.mp ec
      obtain ⟨ρ7, e7, ec⟩ := Option.bind_eq_some_iff.mp ec
      dsimp only at e6 e7 ec
      refine ⟨ρ3, ds1, ρ4, s3.hold, e4, fun J1 G4 s4 fd1 => ?_⟩
      obtain ⟨sw1, nw1⟩ := Stp.wipe s4.hold e5
      have sA := s2.trans (s3.trans s4)
      have wl1 : (L2.wipe τ2 vs1).length = τ2.length := wipe_length τ2 vs1
      have un1 : ∀ (j : Nat), ρ5[j]? ≠ some Sl.un → (L2.wipe τ2 vs1)[j]? = τ2[j]? := fun j hj => Vx.wipe_out (nw1 j hj)
      have SA : Stp K ρw (L2.wipe σ vs) H1 ρ5 (L2.wipe τ2 vs1) G4 := (st2.trans (sA.trans sw1)).un rfl (fun _ _ => rfl) wl1 un1
      have AA : AtE K ρ5 (L2.wipe τ2 vs1) G4 D acc := ((aD0.step sA).step sw1).un wl1 un1
      have ww : ∀ {τ : L2.St}, L2.wipe τ vs1 = L2.wipe τ2 vs1 → L2.wipe τ vs = L2.wipe σ vs := fun {τ} w => (wipe_mono w hsub).trans w2'
      refine ⟨fun j n G => n = ds1.length - j ∧ j ≤ ds1.length ∧ ∃ ρt acc, Stp K ρw (L2.wipe σ vs) H1 ρt (L2.wipe τ2 vs1) G ∧ Stb G4 G ∧ AtE K ρt (L2.wipe τ2 vs1) G D acc ∧ (∀ (j : Nat), ρt[j]? ≠ some Sl.un → j ∉ vs1) ∧ compDct g1 t1 mk mv vs1 (ds1.drop j) acc ρt = some (acc1, ρ6),
        ⟨ds1.length, by simp, Nat.zero_le _, ρ5, acc, SA, Stb.refl _, AA, nw1, by simpa using e6⟩, ?_⟩
      rintro j n G ⟨rfl, hj, ρt, acc, st, stb4, aD, nu, ec1⟩
      by_cases hlt1 : j < ds1.length
      · refine .inr ⟨fd1.go j G stb4 hlt1, fun G' => ∃ ρt acc, Stp K ρw (L2.wipe σ vs) H1 ρt (L2.wipe τ2 vs1) G' ∧ Stb G4 G' ∧ AtE K ρt (L2.wipe τ2 vs1) G' D acc ∧ (∀ (j : Nat), ρt[j]? ≠ some Sl.un → j ∉ vs1) ∧ compDct g1 t1 mk mv vs1 (ds1.drop (j + 1)) acc ρt = some (acc1, ρ6),
          fun G' q => ⟨ds1.length - (j + 1), by omega, rfl, hlt1, q⟩, fun x G' y => ?_⟩
        obtain ⟨sm, z, d, ed, rp⟩ := fd1.yld j G x G' stb4 st.hold.sz hlt1 y
        have g0 := st.hold.grow sm z
        have st2 := st.trans g0
        have aD0 := aD.step g0
        rw [List.drop_eq_getElem_cons hlt1] at ec1
        rw [List.getElem?_eq_getElem hlt1] at ed
        rw [Option.some.inj ed] at ec1
        unfold compDct at ec1
        obtain ⟨ρa, q1, ec1⟩ := Option.bind_eq_some_iff.mp ec1
        obtain ⟨⟨b, ρb⟩, q2, ec1⟩ := Option.bind_eq_some_iff.mp ec1
        refine ⟨ρt, d, ρa, st2.hold, rp, q1, fun τ3 s2 w3 => ?_⟩
        have w3' : L2.wipe τ3 vs1 = L2.wipe τ2 vs1 := w3.trans (wipe_wipe τ2 vs1)
        refine ⟨w3', ρa, b, ρb, s2.hold, q2, fun G5 s3 => ?_⟩
        have close1 : ∀ {ρa ρb : Rho} {Ga : Hp} {ac : Kvs}, Stp K ρw (L2.wipe σ vs) H1 ρa τ3 Ga → AtE K ρa τ3 Ga D ac → wipeO ρa vs1 = some ρb →
            Stp K ρw (L2.wipe σ vs) H1 ρb (L2.wipe τ2 vs1) Ga ∧ AtE K ρb (L2.wipe τ2 vs1) Ga D ac ∧ ∀ (j : Nat), ρb[j]? ≠ some Sl.un → j ∉ vs1 := fun {ρa ρb Ga ac} sa aa eb => by
          obtain ⟨sb, nb⟩ := Stp.wipe sa.hold eb
          have hl' : (L2.wipe τ2 vs1).length = τ3.length := wl1.trans (wipe_eq.mp w3').1.symm
          have he' : ∀ (j : Nat), ρb[j]? ≠ some Sl.un → (L2.wipe τ2 vs1)[j]? = τ3[j]? := fun j hj => by rw [Vx.wipe_out (nb j hj), (wipe_eq.mp w3').2 j (nb j hj)]
          exact ⟨(sa.trans sb).un rfl (fun _ _ => rfl) hl' he', (aa.step sb).un hl' he', nb⟩
        have stb5 : Stb G4 G5 := stb4.trans (g0.trans (s2.trans s3)).stb
        cases b with
        | false =>
          simp only [Bool.false_eq_true, if_false] at ec1 ⊢
          obtain ⟨ρc, e9, ec1⟩ := Option.bind_eq_some_iff.mp ec1
          obtain ⟨sB, aB, nB⟩ := close1 (st2.trans (s2.trans s3)) (aD0.step (s2.trans s3)) e9
          exact ⟨ρc, acc, sB, stb5, aB, nB, ec1⟩
        | true =>
          simp only [if_true] at ec1 ⊢
          obtain ⟨⟨kd, ρc⟩, e9, ec1⟩ := Option.bind_eq_some_iff.mp ec1
          obtain ⟨⟨vd, ρd⟩, e10, ec1⟩ := Option.bind_eq_some_iff.mp ec1
          obtain ⟨kk, e11, ec1⟩ := Option.bind_eq_some_iff.mp ec1
          dsimp only at ec1
          by_cases hz : (kPut acc kk vd).length ≤ sizeLine
          · rw [if_pos hz] at ec1
            obtain ⟨ρe, e12, ec1⟩ := Option.bind_eq_some_iff.mp ec1
            refine ⟨ρb, kd, ρc, s3.hold, e9, fun y G6 s6 rk => ⟨ρc, vd, ρd, s6.hold, e10, fun w G7 s7 rv => ?_⟩⟩
            have sC := (st2.trans (s2.trans s3)).trans (s6.trans s7)
            have aC := (aD0.step (s2.trans s3)).step (s6.trans s7)
            refine ⟨acc, kk, vd, aC.rep, rp_key (Rp.stb s7.stb rk) e11, rv, hz, fun G8 sto => ?_⟩
            obtain ⟨aE, sE⟩ := aC.push sC hD sto hz
            obtain ⟨_, u, u', ea, hb, e8, _⟩ := stored_rep aC.rep sto hz
            cases ea
            have stb8 : Stb G7 G8 := by rw [e8]; exact stb_updX hb
            obtain ⟨sB, aB, nB⟩ := close1 sE aE e12
            exact ⟨ρe, _, sB, (stb5.trans (s6.trans s7).stb).trans stb8, aB, nB, ec1⟩
          · rw [if_neg hz] at ec1; cases ec1
      · have ej : j = ds1.length := by omega
        subst ej
        refine .inl ⟨fd1.stop _ G stb4 (Nat.le_refl _), ?_⟩
        rw [List.drop_length] at ec1
        cases ec1
        obtain ⟨sB, aB, nB⟩ := close (ww (wipe_wipe τ2 vs1)) st aD e7
        exact ⟨ρ7, acc1, sB, aB, nB, ec⟩
  · have ei : i = ds.length := by omega
    subst ei
    refine .inl ⟨fd.stop _ G st.stb (Nat.le_refl _), ?_⟩
    rw [List.drop_length] at ec
    cases ec
    have s2 : Stp K ρw σ H1 ρf σ G := st.un wl.symm (fun j hj => (Vx.wipe_out (nw j hj)).symm) wl.symm fun j hj => (Vx.wipe_out (nu j hj)).symm
    have aD' := aD.un wl.symm fun j hj => (Vx.wipe_out (nu j hj)).symm
    refine k (.ref D) G (s1.trans (sw.trans s2)) ⟨aD'.rep, fun b hb => ?_⟩
    cases hb
    refine ⟨?_, aD'.no⟩
    cases e : H D with
    | none => rfl
    | some u => exact absurd hD (s1.trk D (by rw [e]; simp))
section
variable {X : Cx}
theorem oe_dc2 {kx vx tg iter tg1 iter1 : Expr} {ifs ifs1 : List Expr} {scope : Scope} {own : List (Str × Nat)} {vs1 is : List Nat} {pos : Pos} {it it1 : IM} {g g1 : GM} {t t1 : TM} {mk mv : VM} (hu : X.A.units + 9 < cLine) (hc : X.calm = true) (hN : X.N.Nodup) (ok : BlkOk X.N X.env.scope scope own)
    (hv1 : ∀ i ∈ vs1, i ∈ own.map (·.2)) (hv2 : ∀ i ∈ is, i ∈ own.map (·.2)) (hi : IE X tg iter it)
    (hg : ∀ (s : Shared) (H : Hp) (C : Addr) (cl : List (Str × Addr)) (fp : List Addr), GE (X.blk s H scope (compEnvC scope cl C X.env) fp) tg g is)
    (ht : ∀ (s : Shared) (H : Hp) (C : Addr) (cl : List (Str × Addr)) (fp : List Addr), BTs (X.blk s H scope (compEnvC scope cl C X.env) fp) ifs t)
    (hi1 : ∀ (s : Shared) (H : Hp) (C : Addr) (cl : List (Str × Addr)) (fp : List Addr), IE (X.blk s H scope (compEnvC scope cl C X.env) fp) tg1 iter1 it1)
    (hg1 : ∀ (s : Shared) (H : Hp) (C : Addr) (cl : List (Str × Addr)) (fp : List Addr), GE (X.blk s H scope (compEnvC scope cl C X.env) fp) tg1 g1 vs1)
    (ht1 : ∀ (s : Shared) (H : Hp) (C : Addr) (cl : List (Str × Addr)) (fp : List Addr), BTs (X.blk s H scope (compEnvC scope cl C X.env) fp) ifs1 t1)
    (hk : ∀ (s : Shared) (H : Hp) (C : Addr) (cl : List (Str × Addr)) (fp : List Addr), VE (X.blk s H scope (compEnvC scope cl C X.env) fp) kx mk)
    (hv : ∀ (s : Shared) (H : Hp) (C : Addr) (cl : List (Str × Addr)) (fp : List Addr), VE (X.blk s H scope (compEnvC scope cl C X.env) fp) vx mv)
    (hs : ∀ x, foldedSetIterable iter X.env x = pure x := by intro _; rfl) (hs1 : ∀ env x, foldedSetIterable iter1 env x = pure x := by intro _ _; rfl) :
    OE X (.DictComp kx vx [⟨tg, iter, ifs, 0⟩, ⟨tg1, iter1, ifs1, 0⟩] scope pos) (oDc2 it g t it1 g1 t1 mk mv (own.map (·.2)) vs1) :=
  pem (pe_dcA2 (wi := tI X.kw it) (g := tG X.kw g is) (tt := tT X.kw t) (wi1 := tI X.kw it1) (g1 := tG X.kw g1 vs1) (tt1 := tT X.kw t1) (tk := tV X.kw mk) (tv := tV X.kw mv) hu hc hN ok hv1 hi hg ht hi1 hg1 ht1 hk hv hs hs1) fun _ _ _ h => dc2_read hv1 h is hv2
end
end Vx
/-! Vx17: tests that are chains or ask a dict; d[k] op= e. -/
namespace Vx
open PySem PySem.Spec L2

section
variable {X : Cx} {a b c e f : Expr} {pos p spos : Pos} {ma mb mc mk me : EM}
theorem bt_chain {op op' : CmpOp} {r r' : R2} {g g' : D2} (ho : OpR X (compareOp op) r) (hd : OpC X.kw r g) (ho' : OpR X (compareOp op') r') (hd' : OpC X.kw r' g') (ha : RE X a ma) (hb : RE X b mb) (hc : RE X c mc) (hm : lastMarks [op, op'] [b, c] = false := by with_unfolding_all rfl) :
    BT X (.Compare a [op, op'] [b, c] pos) (tBoo (dChain g g' ma mb mc)) := by
  refine ptm (pt_chain ho ho' ha hb hc hm) fun σ H Q ⟨ρ, bb, ρ', hh, em, k⟩ => ?_
  obtain ⟨⟨rr, ρ9⟩, em, eb⟩ := Option.bind_eq_some_iff.mp em
  obtain ⟨⟨ra, ρ1⟩, e1, em⟩ := Option.bind_eq_some_iff.mp em
  obtain ⟨⟨rb, ρ2⟩, e2, em⟩ := Option.bind_eq_some_iff.mp em
  obtain ⟨da, e3, em⟩ := Option.bind_eq_some_iff.mp em
  obtain ⟨db, e4, em⟩ := Option.bind_eq_some_iff.mp em
  dsimp only at em eb
  split at em
  · rename_i kk ek
    refine ⟨ρ, ra, ρ1, hh, e1, fun x H1 s1 ok1 => ⟨ρ1, rb, ρ2, s1.hold, e2, fun y H2 s2 ok2 => ?_⟩⟩
    refine hd x y H2 da db _ _ (rd_bq s2.hold (ok1.stb s2.stb) e3) (rd_bq s2.hold ok2 e4) ek fun v rv => ?_
    cases rv
    refine ⟨kk, rfl, ?_⟩
    cases kk with
    | false =>
      simp only [Bool.false_eq_true, if_false] at em ⊢
      cases em
      cases eb
      exact ⟨false, rfl, k H2 (s1.trans s2)⟩
    | true =>
      simp only [if_true] at em ⊢
      obtain ⟨⟨rc, ρ3⟩, e5, em⟩ := Option.bind_eq_some_iff.mp em
      obtain ⟨db', e6, em⟩ := Option.bind_eq_some_iff.mp em
      obtain ⟨dc, e7, em⟩ := Option.bind_eq_some_iff.mp em
      obtain ⟨d, e8, em⟩ := Option.map_eq_some_iff.mp em
      cases em
      dsimp only [rd] at eb
      cases d with
      | bool b2 =>
        cases eb
        refine ⟨ρ2, rc, _, s2.hold, e5, fun w H3 s3 ok3 => ?_⟩
        refine hd' y w H3 db' dc _ _ (rd_bq s3.hold (ok2.stb s3.stb) e6) (rd_bq s3.hold ok3 e7) e8 fun v rv => ⟨_, ?_, k H3 (s1.trans (s2.trans s3))⟩
        cases rv
        rfl
      | _ => cases eb
  · cases em
theorem bt_dIn (hu : X.A.units + 9 < cLine) (i : Nat) {x : Str} (hk : RE X a mk) (hm : behindInMarks .In (.Name x p) = false := by rfl) (hN : X.N[i]? = some x := by rfl) (hv : Vis X.env.scope x := by first | exact Or.inl rfl | exact Or.inr (Or.inl rfl) | exact Or.inr (Or.inr rfl)) (hd : (x == ("__debug__" : Str)) = false := by decide)
    (hcd : (x == ("__classdict__" : Str)) = false := by decide) : BT X (.Compare a [.In] [.Name x p] pos) (tBoo (dDIn false mk i)) := by
  refine ptm (pt_cmpR (op_dIn hu) hk (pe_var hN hv hd hcd) hm) fun σ H Q ⟨ρ, bb, ρ', hh, em, k⟩ => ?_
  obtain ⟨⟨rr, ρ9⟩, em, eb⟩ := Option.bind_eq_some_iff.mp em
  obtain ⟨⟨rk, ρ1⟩, e1, em⟩ := Option.bind_eq_some_iff.mp em
  obtain ⟨kd, e2, em⟩ := Option.bind_eq_some_iff.mp em
  obtain ⟨kk, e3, em⟩ := Option.bind_eq_some_iff.mp em
  obtain ⟨kvs, e4, em⟩ := Option.map_eq_some_iff.mp em
  cases em
  cases eb
  refine ⟨ρ, rk, _, hh, e1, fun v H1 s1 ok => ?_⟩
  obtain ⟨a', hσ', rep⟩ := s1.hold.dct_at e4
  exact ⟨.ref a', hσ', kvs, kk, rep, bq_key (rd_bq s1.hold ok e2) e3, _, rfl, k H1 s1⟩
theorem bt_dNotIn (hu : X.A.units + 9 < cLine) (i : Nat) {x : Str} (hk : RE X a mk) (hm : behindInMarks .NotIn (.Name x p) = false := by rfl) (hN : X.N[i]? = some x := by rfl) (hv : Vis X.env.scope x := by first | exact Or.inl rfl | exact Or.inr (Or.inl rfl) | exact Or.inr (Or.inr rfl)) (hd : (x == ("__debug__" : Str)) = false := by decide)
    (hcd : (x == ("__classdict__" : Str)) = false := by decide) : BT X (.Compare a [.NotIn] [.Name x p] pos) (tBoo (dDIn true mk i)) := by
  refine ptm (pt_cmpR (op_dNotIn hu) hk (pe_var hN hv hd hcd) hm) fun σ H Q ⟨ρ, bb, ρ', hh, em, k⟩ => ?_
  obtain ⟨⟨rr, ρ9⟩, em, eb⟩ := Option.bind_eq_some_iff.mp em
  obtain ⟨⟨rk, ρ1⟩, e1, em⟩ := Option.bind_eq_some_iff.mp em
  obtain ⟨kd, e2, em⟩ := Option.bind_eq_some_iff.mp em
  obtain ⟨kk, e3, em⟩ := Option.bind_eq_some_iff.mp em
  obtain ⟨kvs, e4, em⟩ := Option.map_eq_some_iff.mp em
  cases em
  cases eb
  refine ⟨ρ, rk, _, hh, e1, fun v H1 s1 ok => ?_⟩
  obtain ⟨a', hσ', rep⟩ := s1.hold.dct_at e4
  exact ⟨.ref a', hσ', kvs, kk, rep, bq_key (rd_bq s1.hold ok e2) e3, _, rfl, k H1 s1⟩
/-! ### d[k] += e -/
def rDGet (K : KW) : V → V → Hp → VK → Prop := fun o i H Q => ∃ kvs k d, ownRep K H o (.dct kvs) ∧ KeyV K H i k ∧ kLook kvs k = some d ∧ ∀ v, Rp K H v d → Q v H
theorem get_dict (hu : X.A.units + 9 < cLine) : PGet X (rDGet X.kw) := by
  intro pins s σ H ov iv o u Q I ro ri ⟨kvs, k, d, rep, kv, lk, q⟩
  obtain ⟨a, xs, rfl, ha, he, m, en, nd, hl, hx⟩ := dict_at I rep
  cases ro
  obtain ⟨z, ez, vd, rz, pz⟩ := (ents_look (k := k) en).2 d lk
  exact any_getItem hu (kv.nested I ri) kv.1 m ez ⟨vd, H, I.tok _, rz, q vd pz⟩
/-- d[k] += e, numbers -/
def sAugD (i : Nat) (mk me : EM) (h : Int → Int → Int) : SM := fun ρ => (dctAt ρ i).bind fun _ => (mk ρ).bind fun q => (rd q.2 q.1).bind fun kd => (keyD kd).bind fun k => (dctAt q.2 i).bind fun kvs => (kLook kvs k).bind fun old => (me q.2).bind fun r => match old, rd r.2 r.1 with
  | .int x, some (.int y) => (rd r.2 q.1).bind fun kd' => (keyD kd').bind fun k' => (dctAt r.2 i).bind fun kvs' => if (kPut kvs' k' (.int (h x y))).length ≤ sizeLine then some (.nx, updD r.2 i (kPut kvs' k' (.int (h x y)))) else none
  | _, _ => none
theorem se_augD (hu : X.A.units + 9 < cLine) (i : Nat) {x : Str} {op : Operator} {h : Int → Int → Int} (hk : RE X f mk) (he : RE X e me) (hp : PIp X op (ipI h)) (hN : X.N[i]? = some x := by rfl) (hv : Vis X.env.scope x := by first | exact Or.inl rfl | exact Or.inr (Or.inl rfl) | exact Or.inr (Or.inr rfl)) (hd : (x == ("__debug__" : Str)) = false := by decide)
    (hcd : (x == ("__classdict__" : Str)) = false := by decide) (ha : ∀ ov iv new, augStore f ov iv new = (do holding [new, ov, iv] (setItem ov iv new); release [new, ov, iv] []; pure .next) := by intros; rfl) :
    SE X (.AugAssign (.Subscript (.Name x p) f spos) op e pos) (sAugD i mk me h) := by
  refine psm (ps_augS (pe_var hN hv hd hcd) hk (get_dict hu) he hp (set_dict hu) ha) fun D σ H ⟨ρ, fl, ρ', hh, em, k⟩ => ?_
  obtain ⟨k0, e0, em⟩ := Option.bind_eq_some_iff.mp em
  obtain ⟨⟨rk, ρ1⟩, e1, em⟩ := Option.bind_eq_some_iff.mp em
  obtain ⟨kd, e2, em⟩ := Option.bind_eq_some_iff.mp em
  obtain ⟨kk, e3, em⟩ := Option.bind_eq_some_iff.mp em
  obtain ⟨kvs, e4, em⟩ := Option.bind_eq_some_iff.mp em
  obtain ⟨old, e5, em⟩ := Option.bind_eq_some_iff.mp em
  obtain ⟨⟨re, ρ2⟩, e6, em⟩ := Option.bind_eq_some_iff.mp em
  dsimp only at em
  cases old with
  | int x0 =>
    cases eq : rd ρ2 re with
    | none => rw [eq] at em; cases em
    | some dd =>
      rw [eq] at em
      cases dd with
      | int y0 =>
        dsimp only at em
        obtain ⟨kd', e7, em⟩ := Option.bind_eq_some_iff.mp em
        obtain ⟨kk', e8, em⟩ := Option.bind_eq_some_iff.mp em
        obtain ⟨kvs', e9, em⟩ := Option.bind_eq_some_iff.mp em
        by_cases hz : (kPut kvs' kk' (.int (h x0 y0))).length ≤ sizeLine
        · rw [if_pos hz] at em
          cases em
          obtain ⟨a, hσ, _⟩ := hh.dct_at e0
          refine ⟨.ref a, hσ, ρ, rk, ρ1, hh, e1, fun kv H1 s1 okk => ?_⟩
          obtain ⟨a', hσ', rep⟩ := s1.hold.dct_at e4
          rw [hσ] at hσ'
          cases hσ'
          refine ⟨kvs, kk, _, rep, bq_key (rd_bq s1.hold okk e2) e3, e5, fun ov rov => ?_⟩
          cases rov
          refine ⟨ρ1, re, ρ2, s1.hold, e6, fun ev H2 s2 oke => ?_⟩
          refine ⟨_, _, rfl, (rd_bq s2.hold oke eq).int, ?_⟩
          obtain ⟨a', hσ', rep⟩ := s2.hold.dct_at e9
          rw [hσ] at hσ'
          cases hσ'
          refine ⟨kvs', kk', .int _, rep, bq_key (rd_bq s2.hold (okk.stb s2.stb) e7) e8, .int _, hz, fun H' st => ?_⟩
          exact k σ _ ((s1.trans s2).trans (Stp.updD s2.hold e9 hσ st hz))
        · rw [if_neg hz] at em; cases em
      | _ => cases em
  | _ => cases em
end
end Vx
/-! Vx18: ranges that stand in names. -/
namespace Vx
open PySem PySem.Spec L2

def rngAt (ρ : Rho) (i : Nat) : Option (Int × Int) := match ρ[i]? with
  | some (.own (.rng a b)) => some (a, b)
  | some (.io (.rng a b)) => some (a, b)
  | _ => none
theorem Hold.rng_at {K : KW} {ρ : Rho} {σ : L2.St} {H : Hp} {i : Nat} {r : Int × Int} (h : Hold K ρ σ H) (e : rngAt ρ i = some r) : ∃ a, σ[i]? = some (some (.ref a)) ∧ H a = some (.rng r.1 r.2) := by
  have main : ∀ {s : Sl}, ρ[i]? = some s → (s = .own (.rng r.1 r.2) ∨ s = .io (.rng r.1 r.2)) → ∃ a, σ[i]? = some (some (.ref a)) ∧ H a = some (.rng r.1 r.2) := fun {s} q hs => by
    have hi : i < σ.length := by rw [h.len]; exact (List.getElem?_eq_some_iff.mp q).1
    have ok := h.ok i s _ q (List.getElem?_eq_getElem hi)
    rcases hs with rfl | rfl
    · obtain ⟨v, ev, a, rfl, e⟩ := ok
      exact ⟨a, by rw [List.getElem?_eq_getElem hi, ev], e⟩
    · obtain ⟨v, ev, a, rfl, e⟩ := ok
      exact ⟨a, by rw [List.getElem?_eq_getElem hi, ev], e⟩
  unfold rngAt at e
  split at e
  · rename_i q; cases e; exact main q (.inl rfl)
  · rename_i q; cases e; exact main q (.inr rfl)
  · cases e
theorem szs_updR {K : KW} {H : Hp} {a : Addr} {i j : Int} (z : Szs K H) (hn : H a = none) : Szs K (upd H a (.rng i j)) := by
  refine ⟨fun b xs q => ?_, fun b xs q => ?_⟩
  · by_cases hb : b = a
    · subst hb
      rcases q with (q | ⟨o, q⟩) | q
      · rw [upd_same] at q; cases q
      · rw [upd_same] at q; cases q
      · exact z.lst b xs (.inr q)
    · rcases q with (q | ⟨o, q⟩) | q
      · rw [upd_ne hb] at q; exact z.lst b xs (.inl (.inl q))
      · rw [upd_ne hb] at q; exact z.lst b xs (.inl (.inr ⟨o, q⟩))
      · exact z.lst b xs (.inr q)
  · by_cases hb : b = a
    · subst hb
      rcases q with (q | ⟨o, q⟩) | q
      · rw [upd_same] at q; cases q
      · rw [upd_same] at q; cases q
      · exact z.tup b xs (.inr q)
    · rcases q with (q | ⟨o, q⟩) | q
      · rw [upd_ne hb] at q; exact z.tup b xs (.inl (.inl q))
      · rw [upd_ne hb] at q; exact z.tup b xs (.inl (.inr ⟨o, q⟩))
      · exact z.tup b xs (.inr q)
def oRng2 (m : RM) : OM := fun ρ => (m ρ).bind fun p => match rdAll p.2 p.1 with
  | some [.int i, .int j] => some (.rng i j, p.2)
  | _ => none
def iRngV (i : Nat) : IM := fun ρ => (rngAt ρ i).bind fun r => if r.2 - r.1 ≤ 16777216 ∧ (-(2 ^ 62) ≤ r.1 ∧ r.1 < 2 ^ 62) ∧ -(2 ^ 62) ≤ r.2 ∧ r.2 < 2 ^ 62 then some (rngD r.1 (r.2 - r.1).toNat, ρ) else none
section
variable {X : Cx} {tg a b : Expr} {p pos : Pos} {m : RM}
theorem oe_rng2 (hg : Gl X "range") (hm : X.mg "range" = none) (hb : bootBuiltins "range" = some (.type "range")) (ha : RS X [a, b] m) (hs : starEach [a, b] X.env = (false, eval a X.env) :: starEach [b] X.env := by rfl) (hpl : (backTo pos (starEach [b] X.env)).any (·.1) = false := by rfl) :
    OE X (.Call (.Name "range" p) [a, b] [] pos) (oRng2 m) := by
  refine pem (pe_gh (pe_callTy cr_range2 hg hm hb ha (by decide) (by decide) hs hpl)) fun σ H Q ⟨ρ, o, ρ', hh, em, k⟩ => ?_
  obtain ⟨⟨rs, ρ1⟩, e1, em⟩ := Option.bind_eq_some_iff.mp em
  dsimp only at em
  split at em
  · rename_i i j q
    cases em
    refine ⟨ρ, rs, _, hh, e1, fun vs H1 s1 ok => ?_⟩
    have bq := rdAll_bq s1.hold ok q
    cases bq with
    | cons r t =>
      cases t with
      | cons r2 t2 =>
        cases t2
        rw [r.int, r2.int]
        refine ⟨i, j, rfl, fun y hy z => .inl ?_⟩
        obtain ⟨s4, n4⟩ := newo_run (o := .rng i j) s1 (same_new hy) z ⟨y, rfl, upd_same⟩ (fun b hb => by cases hb; exact hy)
        exact k _ _ s4 n4
  · cases em
theorem ie_rngV (i : Nat) {x : Str} (hN : X.N[i]? = some x := by rfl) (hv : Vis X.env.scope x := by first | exact Or.inl rfl | exact Or.inr (Or.inl rfl) | exact Or.inr (Or.inr rfl)) (hd : (x == ("__debug__" : Str)) = false := by decide) (hcd : (x == ("__classdict__" : Str)) = false := by decide) :
    IE X tg (.Name x p) (iRngV i) := by
  refine ⟨fun pins s σ H R I ⟨ρ, ds, ρ', hh, em, k⟩ => ?_⟩
  obtain ⟨⟨lo, hi⟩, e1, em⟩ := Option.bind_eq_some_iff.mp em
  dsimp only at em
  by_cases hz : hi - lo ≤ 16777216 ∧ (-(2 ^ 62) ≤ lo ∧ lo < 2 ^ 62) ∧ -(2 ^ 62) ≤ hi ∧ hi < 2 ^ 62
  · rw [if_pos hz] at em
    cases em
    obtain ⟨a, hσ, ha⟩ := hh.rng_at e1
    refine thn ((pe_var (X := X) hN hv hd hcd).run pins s σ H (fun v H1 => v = .ref a ∧ H1 = H) I ⟨.ref a, hσ, rfl, rfl⟩) fun v s1 ⟨x, H1, I1, r1, ex, eh⟩ => ?_
    subst ex eh
    cases r1
    obtain ⟨t, u, v, hg⟩ := I1.hok a _ ha
    refine wpAny_pyIter_range (a := lo) (b := hi) (c := 1) (t := t) (u := u) (v := v) hg (small_one hz.2.1.1 hz.2.1.2 hz.2.2.1 hz.2.2.2) ?_
    refine ⟨s1.heap.objs.size, [s1.heap.objs.size], _, _, H1, rfl, I1.kept (t' := s1.toks) (fun b o e => Heap.get?_push_of_some _ e), turn_range _ lo (hi - lo).toNat, ?_, fun b hb => ?_, k _ H1 (.refl hh) (feeds_r (by rw [sizeLine_eq]; omega))⟩
    · have e1 : lo + ((0 : Nat) : Int) * 1 = lo := by simp
      have e2 : (((hi - lo).toNat : Nat) : Int) - ((0 : Nat) : Int) = Builtin.Range.rangeSize lo hi 1 := by rw [rangeSize_one]; split <;> omega
      show IsRangeIter _ _ (lo + ((0 : Nat) : Int) * 1) ((((hi - lo).toNat : Nat) : Int) - ((0 : Nat) : Int)) 1
      rw [e1, e2]
      exact Heap.get?_push_size _ rfl
    · obtain rfl : b = s1.heap.objs.size := by simpa using hb
      exact I1.fpOk (Nat.le_refl _) (I1.hok.fresh (Nat.le_refl _))
  · rw [if_neg hz] at em; cases em
theorem cr_range1 : CallR X (.type "range") (fun vs H Q => ∃ j, vs = [V.int j] ∧ ∀ y, H y = none → Q (.ref y) (upd H y (.rng 0 j))) := by
  intro pins s σ H vs us Q I r ⟨j, ej, q⟩
  subst ej
  obtain ⟨u1, eu, rj⟩ := vals1 r
  subst eu
  obtain ⟨t, rfl⟩ := rj
  refine call_range_1 ⟨.ref s.heap.objs.size, upd H s.heap.objs.size (.rng 0 j), I.laid (t' := s.toks + 1 + 1) (fun b o e => Heap.get?_push_of_some _ e) (Nat.le_refl _) ?_, rfl, q _ (I.hok.fresh (Nat.le_refl _))⟩
  exact ⟨s.toks, t, s.toks + 1, Heap.get?_push_size _ rfl⟩
def oRng1 (m : RM) : OM := fun ρ => (m ρ).bind fun p => match rdAll p.2 p.1 with
  | some [.int j] => some (.rng 0 j, p.2)
  | _ => none
theorem oe_rng1 (hg : Gl X "range") (hm : X.mg "range" = none) (hb : bootBuiltins "range" = some (.type "range")) (ha : RS X [a] m) (hs : starEach [a] X.env = (false, eval a X.env) :: starEach [] X.env := by rfl) (hpl : (backTo pos (starEach [] X.env)).any (·.1) = false := by rfl) :
    OE X (.Call (.Name "range" p) [a] [] pos) (oRng1 m) := by
  refine pem (pe_gh (pe_callTy cr_range1 hg hm hb ha (by decide) (by decide) hs hpl)) fun σ H Q ⟨ρ, o, ρ', hh, em, k⟩ => ?_
  obtain ⟨⟨rs, ρ1⟩, e1, em⟩ := Option.bind_eq_some_iff.mp em
  dsimp only at em
  split at em
  · rename_i j q
    cases em
    refine ⟨ρ, rs, _, hh, e1, fun vs H1 s1 ok => ?_⟩
    have bq := rdAll_bq s1.hold ok q
    cases bq with
    | cons r t =>
      cases t
      rw [r.int]
      refine ⟨j, rfl, fun y hy z => .inl ?_⟩
      obtain ⟨s4, n4⟩ := newo_run (o := .rng 0 j) s1 (same_new hy) z ⟨y, rfl, upd_same⟩ (fun b hb => by cases hb; exact hy)
      exact k _ _ s4 n4
  · cases em
end
end Vx
/-! Vend: the law's def called with the script. -/
namespace Vx
open PySem PySem.Spec L2

def spLaw (K : KW) : Sp := fun vs H Q _ => ∃ (a : Addr) (ns : List Int), vs = [.ref a] ∧ FzL K H a (ns.map V.int) ∧ ∀ H', Q (.bl true) H'
theorem pss_gh0 {X : Cx} {st : List Stmt} {t : TS} (h : PSs X st t) : PSs X st (fun D σ H => GQ X.kw H (fun H' => t D σ H')) := ⟨fun pins s σ H D I q => by
  obtain ⟨H', I', q'⟩ := gq_run I q
  exact h.run pins s σ H' D I' q'⟩
theorem rpa_ints {K : KW} {H : Hp} : ∀ ns : List Int, RpA K H (ns.map V.int) (ns.map .int)
  | [] => .nil
  | n :: ns => .cons (.int n) (rpa_ints ns)
theorem law_ok {P : Program} {w : World} {K : PySem.W.Frag} {mg : Str → Option Value} {base : Heap} {x qual : Str} {params : Arguments} {body : List Stmt} {scope : Scope} {f : Addr} {fd : FuncData} {N : List Str} {p : Str} {k n : Nat} {B : SM}
    (F : FunD K x qual params body scope [] [] f fd) (S : FnScope N [p] scope) (hn : N.length = n + 1)
    (hb : ∀ (f : Addr) (cdv : Value) (A : Around) (outer : List Env) (s : Shared) (H : Hp) (E : XK), Room k (A.deeper (PyProof.Rows.envOfC qual scope s.heap.objs.size f cdv)) →
      SEs (cxOf CX0 P w K mg base N qual scope f cdv A outer s H E).nox body B)
    (hB : ∀ ns : List Int, ∃ ρ', B (.val (.list (ns.map .int)) :: List.replicate n .un) = some (.rt (.val (.bool true)), ρ')) : FnOk P w K mg base CX0 (k + 1) f fd [p] (spLaw ⟨K, w⟩) := by
  refine F.ok S (fun vs H Q E ⟨a, ns, e, _⟩ => by rw [e]; rfl) fun cdv A outer s H vs Q E hr ⟨a, ns, e, hz, hQ⟩ => ⟨_, PSs.nox (pss_gh0 (hb f cdv A outer s H E hr)), fun sz => .inl ?_⟩
  subst e
  obtain ⟨ρ', eB⟩ := hB ns
  have hs : L2.start N [V.ref a] = some (V.ref a) :: List.replicate n none := by
    unfold L2.start
    rw [hn]
    rfl
  rw [hs]
  have un : ∀ (i : Nat) (t : Sl), (Sl.val (.list (ns.map .int)) :: List.replicate n .un)[i]? = some t → (i = 0 ∧ t = .val (.list (ns.map .int))) ∨ t = .un := fun i t h => by
    cases i with
    | zero => cases h; exact .inl ⟨rfl, rfl⟩
    | succ i =>
      rw [List.getElem?_cons_succ, List.getElem?_replicate] at h
      split at h
      · cases h; exact .inr rfl
      · cases h
  refine ⟨_, _, ρ', ⟨by simp, fun i t x h1 h2 => ?_, fun i j t u x y b m n ne h1 h2 h3 h4 f1 f2 => ?_, sz⟩, eB, ?_⟩
  · rcases un i t h1 with ⟨rfl, rfl⟩ | rfl
    · cases h2
      exact ⟨_, rfl, .lst hz (rpa_ints ns)⟩
    · trivial
  · rcases un i t h1 with ⟨rfl, rfl⟩ | rfl
    · exact f1.elim
    · exact f1.elim
  · intro v σ' H' st ok
    have : v = .bl true := by cases (show Rp _ H' v (.bool true) from ok); rfl
    rw [this]
    exact hQ H'
theorem law_sp {K : KW} {H : Hp} {a : Addr} {ns : List Int} (o : Only H) (s : SqL K.K H a (ns.map V.int)) : spLaw K [.ref a] H (fun v _ => v = .bl true) fun _ _ _ => False := by
  refine ⟨a, ns, rfl, ?_, fun _ => rfl⟩
  rcases s with (h | ⟨u, h⟩) | h
  · rcases o a with z | ⟨u, xs, z⟩
    · rw [z] at h; cases h
    · rw [z] at h; cases h
  · exact .inl ⟨u, h⟩
  · exact .inr h
end Vx
namespace Vw
open PySem PySem.Spec L2 Vx

def b_version_of : SM := sSeq (sIf (tBoo (dBin gEq (dBin gIx (dVar 0) (dC (.int 0))) (dC (.str "value")))) (sRet (mV (dC (.int 0)))) (sNil)) (sRet (vIf (tBoo (dBin gEq (dBin gIx (dVar 0) (dC (.int 0))) (dC (.str "times")))) (mV (dBin gIx (dVar 0) (dC (.int 2)))) (mV (dBin gIx (dVar 0) (dC (.int 1))))))
def d_version_of : DenF := fnD 1 1 b_version_of
def l1_numbers_at : SM := sSeq (sIf (tAndM (tBoo (dBin gEq (dBin gIx (dVar 3) (dC (.int 0))) (dC (.str "many")))) (tBoo (dBin gEq (dBin gIx (dVar 3) (dC (.int 1))) (dVar 1)))) (sApp 2 (mV (dBin gIx (dVar 3) (dC (.int 2))))) (sNil)) (sIf (tAndM (tBoo (dBin gEq (dBin gIx (dVar 3) (dC (.int 0))) (dC (.str "wrote")))) (tBoo (dBin gEq (dBin gIx (dVar 3) (dC (.int 1))) (dVar 1)))) (sApp 2 (mV (dCall gLen (rCons (dBin gIx (dVar 3) (dC (.int 2))) (rNil))))) (sNil))
def b_numbers_at : SM := sSeq (sSetO 2 (oLst (vNil))) (sSeq (sFor (iSq (mV (dVar 0))) (gNm 3) (l1_numbers_at)) (sRet (mV (dVar 2))))
def d_numbers_at : DenF := fnD 2 4 b_numbers_at
def l1_is_shut : SM := sIf (tAndM (tBoo (dBin gIn (dBin gIx (dVar 3) (dC (.int 0))) (mR (vTup (vCons (mV (dC (.str "wrote"))) (vCons (mV (dC (.str "among"))) (vNil))))))) (tAndM (tBoo (dBin gEq (dBin gIx (dVar 3) (dC (.int 1))) (dVar 1))) (tBoo (dBin gNotIn (dVar 2) (dBin gIx (dVar 3) (dC (.int 2))))))) (sRet (mV (dC (.bool true)))) (sNil)
def b_is_shut : SM := sSeq (sFor (iSq (mV (dVar 0))) (gNm 3) (l1_is_shut)) (sRet (mV (dC (.bool false))))
def d_is_shut : DenF := fnD 3 4 b_is_shut
def l1_is_due : SM := sSeq (sIf (tAndM (tBoo (dBin gEq (dBin gIx (dVar 3) (dC (.int 0))) (dC (.str "did")))) (tBoo (dBin gEq (dSl (dVar 3) (pSm (dC (.int 1))) (pNo)) (mR (vTup (vCons (mV (dVar 1)) (vCons (mV (dVar 2)) (vNil)))))))) (sRet (mV (dC (.bool true)))) (sNil)) (sIf (tAndM (tBoo (dBin gEq (dBin gIx (dVar 3) (dC (.int 0))) (dC (.str "wrote")))) (tAndM (tBoo (dBin gEq (dBin gIx (dVar 3) (dC (.int 1))) (dVar 1))) (tBoo (dBin gIn (dVar 2) (dBin gIx (dVar 3) (dC (.int 2))))))) (sRet (mV (dC (.bool true)))) (sNil))
def b_is_due : SM := sSeq (sFor (iSq (mV (dVar 0))) (gNm 3) (l1_is_due)) (sRet (mV (dC (.bool false))))
def d_is_due : DenF := fnD 3 4 b_is_due
def l1_marks_of : SM := sIf (tAndM (tBoo (dBin gEq (dBin gIx (dVar 3) (dC (.int 0))) (dC (.str "times")))) (tBoo (dBin gEq (dBin gIx (dVar 3) (dC (.int 1))) (dVar 1)))) (sSetD 2 (dBin gIx (dVar 3) (dC (.int 2))) (mV (dBin gIx (dVar 3) (dC (.int 3))))) (sNil)
def c1_marks_of : VM := vTup (vCons (mV (dVar 4)) (vCons (mV (dDIx 2 (dVar 4))) (vNil)))
def b_marks_of : SM := sSeq (sSetO 2 (oDisp1 (mV (dC (.int 0))) (mV (dC (.int 0))))) (sSeq (sFor (iSq (mV (dVar 0))) (gNm 3) (l1_marks_of)) (sRet (mF (oLc (iSq (mF (oSortDI 2))) (gNm 4) (tYesM) (c1_marks_of) [4]))))
def d_marks_of : DenF := fnD 2 5 b_marks_of
def l1_cells : SM := sIf (tBoo (dChain gLe gLe (dBin gIx (dVar 3) (dC (.int 1))) (dVar 4) (dBin gIx (dVar 3) (dC (.int 2))))) (sApp 2 (vTup (vCons (mV (dVar 4)) (vCons (mV (dBin gIx (dVar 3) (dC (.int 0)))) (vNil))))) (sNil)
def l2_cells : SM := sFor (iSq (mV (dVar 0))) (gNm 4) (l1_cells)
def b_cells : SM := sSeq (sSetO 2 (oLst (vNil))) (sSeq (sFor (iSq (mV (dVar 1))) (gNm 3) (l2_cells)) (sRet (mV (dVar 2))))
def d_cells : DenF := fnD 2 5 b_cells
def b__law_draw : SM := sRetO (oLst (vCons (mF (oCall gList (rCons (dVar 0) (rNil)))) (vCons (mV (dC (.int 0))) (vCons (mV (dC (.int 0))) (vCons (mV (dC (.int 17))) (vNil))))))
def d__law_draw : DenF := fnD 1 1 b__law_draw
def b__law_next : SM := sSeq (sIf (tBoo (dBin gGt (dBin gIx (dVar 0) (dC (.int 2))) (dC (.int 0)))) (sSeq (sAsg (gNm 2) (mV (dBin gMod (dCall gInt1 (rCons (dBin gIx (dVar 0) (dC (.int 2))) (rNil))) (dVar 1)))) (sSeq (sSetI 0 (dC (.int 2)) (mV (dBin gDiv (dBin gIx (dVar 0) (dC (.int 2))) (dVar 1)))) (sRet (mV (dVar 2))))) (sNil)) (sSeq (sIf (tBoo (dBin gLt (dBin gIx (dVar 0) (dC (.int 1))) (dCall gLen (rCons (dBin gIx (dVar 0) (dC (.int 0))) (rNil))))) (sSeq (sAsg (gNm 3) (mV (dCall gAbs (rCons (dBin gIx (dBin gIx (dVar 0) (dC (.int 0))) (dBin gIx (dVar 0) (dC (.int 1)))) (rNil))))) (sSeq (sSetI 0 (dC (.int 1)) (mV (dBin gAdd (dBin gIx (dVar 0) (dC (.int 1))) (dC (.int 1))))) (sSeq (sIf (tBoo (dBin gGe (dVar 3) (dBin gPow (dC (.int 10)) (dC (.int 18))))) (sSeq (sSetI 0 (dC (.int 2)) (mV (dBin gDiv (dVar 3) (dVar 1)))) (sRet (mV (dBin gMod (dCall gInt1 (rCons (dVar 3) (rNil))) (dVar 1))))) (sNil)) (sSetI 0 (dC (.int 3)) (mV (dBin gMod (dCall gInt1 (rCons (dBin gAdd (dBin gAdd (dBin gMulA (dBin gIx (dVar 0) (dC (.int 3))) (dC (.int 48271))) (dVar 3)) (dC (.int 11))) (rNil))) (dC (.int 2147483647)))))))) (sSetI 0 (dC (.int 3)) (mV (dBin gMod (dCall gInt1 (rCons (dBin gAdd (dBin gMulA (dBin gIx (dVar 0) (dC (.int 3))) (dC (.int 48271))) (dC (.int 12345))) (rNil))) (dC (.int 2147483647)))))) (sRet (mV (dBin gMod (dBin gDiv (dCall gInt1 (rCons (dBin gMod (dBin gMulA (dBin gIx (dVar 0) (dC (.int 3))) (dC (.int 69621))) (dC (.int 2147483629))) (rNil))) (dC (.int 7))) (dVar 1)))))
def d__law_next : DenF := fnD 2 4 b__law_next
def t1__law_values : TM := tBoo (dBin gEq (dVar 4) (dVar 1))
def l1__law_values : SM := sAsg (gNm 2) (mV (dBin gAdd (dVar 2) (mR (mF (oLc (iSq (mV (dVar 3))) (gTp [gNm 4, gNm 5]) (t1__law_values) (mV (dVar 5)) [4, 5])))))
def b__law_values : SM := sSeq (sAsg (gNm 2) (mF (oLst (vNil)))) (sSeq (sFor (iSq (mV (dVar 0))) (gNm 3) (l1__law_values)) (sRet (mV (dVar 2))))
def d__law_values : DenF := fnD 2 6 b__law_values
def l1__law_once : SM := sSeq (sAsg (gNm 4) (mV (dSl (dVar 3) (pNo) (pSm (dC (.int 3)))))) (sIf (tOrM (tBoo (dBin gNe (dBin gIx (dVar 3) (dC (.int 0))) (dC (.str "value")))) (tBoo (dBin gEq (dDG2 1 (dVar 4) (dVar 3)) (dVar 3)))) (sSeq (sSetD 1 (dVar 4) (mV (dVar 3))) (sApp 2 (mV (dVar 3)))) (sNil))
def b__law_once : SM := sSeq (sSetO 1 (oNewD)) (sSeq (sSetO 2 (oLst (vNil))) (sSeq (sFor (iSq (mV (dVar 0))) (gNm 3) (l1__law_once)) (sRet (mV (dVar 2)))))
def d__law_once : DenF := fnD 1 5 b__law_once
def l1__law_head : SM := sIf (tBoo (dBin gNe (dBin gIx (dVar 2) (dC (.int 0))) (dC (.str "value")))) (sAsg (gNm 1) (mV (dCall gMax (rCons (dVar 1) (rCons (mR (vIf (tBoo (dBin gEq (dBin gIx (dVar 2) (dC (.int 0))) (dC (.str "times")))) (mV (dBin gIx (dVar 2) (dC (.int 2)))) (mV (dBin gIx (dVar 2) (dC (.int 1)))))) (rNil)))))) (sNil)
def b__law_head : SM := sSeq (sAsg (gNm 1) (mV (dC (.int 0)))) (sSeq (sFor (iSq (mV (dVar 0))) (gNm 2) (l1__law_head)) (sRet (mV (dVar 1))))
def d__law_head : DenF := fnD 1 3 b__law_head
def l1__law_cell : SM := sSeq (sIf (tAndM (tBoo (dBin gIn (dBin gIx (dVar 4) (dC (.int 0))) (mR (vTup (vCons (mV (dC (.str "wrote"))) (vCons (mV (dC (.str "among"))) (vNil))))))) (tAndM (tBoo (dBin gEq (dBin gIx (dVar 4) (dC (.int 1))) (dVar 1))) (tBoo (dBin gNotIn (dVar 2) (dBin gIx (dVar 4) (dC (.int 2))))))) (sRet (mV (dC (.int 0)))) (sNil)) (sIf (tOrM (tAndM (tBoo (dBin gEq (dBin gIx (dVar 4) (dC (.int 0))) (dC (.str "wrote")))) (tBoo (dBin gEq (dBin gIx (dVar 4) (dC (.int 1))) (dVar 1)))) (tBoo (dBin gEq (dVar 4) (mR (vTup (vCons (mV (dC (.str "did"))) (vCons (mV (dVar 1)) (vCons (mV (dVar 2)) (vNil))))))))) (sAsg (gNm 3) (mV (dC (.int 2)))) (sNil))
def b__law_cell : SM := sSeq (sAsg (gNm 3) (mV (dC (.int 1)))) (sSeq (sFor (iSq (mV (dVar 0))) (gNm 4) (l1__law_cell)) (sRet (mV (dVar 3))))
def d__law_cell : DenF := fnD 3 5 b__law_cell
def l1__law_bounds : SM := sSeq (sIf (tAndM (tBoo (dBin gEq (dBin gIx (dVar 3) (dC (.int 0))) (dC (.str "many")))) (tBoo (dBin gEq (dBin gIx (dVar 3) (dC (.int 1))) (dVar 2)))) (sRet (vTup (vCons (mV (dBin gIx (dVar 3) (dC (.int 2)))) (vCons (mV (dBin gIx (dVar 3) (dC (.int 2)))) (vNil))))) (sNil)) (sIf (tAndM (tBoo (dBin gEq (dBin gIx (dVar 3) (dC (.int 0))) (dC (.str "wrote")))) (tBoo (dBin gEq (dBin gIx (dVar 3) (dC (.int 1))) (dVar 2)))) (sRet (vTup (vCons (mV (dCall gLen (rCons (dBin gIx (dVar 3) (dC (.int 2))) (rNil)))) (vCons (mV (dCall gLen (rCons (dBin gIx (dVar 3) (dC (.int 2))) (rNil)))) (vNil))))) (sNil))
def b__law_bounds : SM := sSeq (sFor (iSq (mV (dVar 1))) (gNm 3) (l1__law_bounds)) (sRet (vTup (vCons (mV (dC (.int 1))) (vCons (mV (dCall gLen (rCons (dVar 0) (rNil)))) (vNil)))))
def d__law_bounds : DenF := fnD 3 4 b__law_bounds
def c1_head_of : VM := dCl d_version_of (aVal (mV (dVar 1)) (aNil))
def b_head_of : SM := sRet (mV (dCall gMax (rCons (dBin gAdd (mR (mF (oLst (vCons (mV (dC (.int 0))) (vNil))))) (mR (mF (oLc (iSq (mV (dVar 0))) (gNm 1) (tYesM) (c1_head_of) [1])))) (rNil))))
def d_head_of : DenF := fnD 1 2 b_head_of
def b_cell : SM := sSeq (sIf (tTru (mR (dCl d_is_shut (aVal (mV (dVar 0)) (aVal (mV (dVar 1)) (aVal (mV (dVar 2)) (aNil))))))) (sRet (mV (dC (.str "shut")))) (sNil)) (sRet (vIf (tTru (mR (dCl d_is_due (aVal (mV (dVar 0)) (aVal (mV (dVar 1)) (aVal (mV (dVar 2)) (aNil))))))) (mV (dC (.str "due"))) (mV (dC (.str "free")))))
def d_cell : DenF := fnD 3 3 b_cell
def b__law_shelf : SM := sRet (mV (dBin gIx (mR (mF (oLst (vCons (vTup (vCons (mV (dC (.str "a"))) (vNil))) (vCons (vTup (vCons (mV (dC (.str "a"))) (vCons (mV (dC (.str "b"))) (vNil)))) (vCons (vTup (vCons (mV (dC (.str "a"))) (vCons (mV (dC (.str "b"))) (vCons (mV (dC (.str "c"))) (vNil))))) (vCons (vTup (vCons (mV (dC (.str "a"))) (vCons (mV (dC (.str "ab"))) (vCons (mV (dC (.str "b"))) (vNil))))) (vCons (vTup (vCons (mV (dC (.str "b"))) (vCons (mV (dC (.str "c"))) (vNil)))) (vNil))))))))) (mR (dCl d__law_next (aIo 0 (aVal (mV (dVar 1)) (aNil)))))))
def d__law_shelf : DenF := fnD 2 2 b__law_shelf
def t1__law_history : TM := tBoo (dBin gEq (mR (dCl d__law_next (aIo 0 (aVal (mV (dC (.int 2))) (aNil))))) (dC (.int 0)))
def c1__law_history : VM := vTup (vCons (mV (dVar 6)) (vCons (mV (dBin gSub (mR (dCl d__law_next (aIo 0 (aVal (mV (dC (.int 5))) (aNil))))) (dC (.int 2)))) (vNil)))
def l1__law_history : SM := sSeq (sSetO 5 (oLc (iSq (mV (dVar 1))) (gNm 6) (t1__law_history) (mV (dVar 6)) [6])) (sSeq (sIf (tNotM (tTru (dVar 5))) (sAsg (gNm 5) (mF (oLst (vCons (mV (dBin gIx (dVar 1) (mR (dCl d__law_next (aIo 0 (aVal (mV (dCall gLen (rCons (dVar 1) (rNil)))) (aNil))))))) (vNil))))) (sNil)) (sApp 3 (mV (dCall gTuple (rCons (mR (mF (oLc (iSq (mV (dVar 5))) (gNm 6) (tYesM) (c1__law_history) [6]))) (rNil))))))
def b__law_history : SM := sSeq (sSetO 3 (oLst (vNil))) (sSeq (sFor (iRg1 (rCons (dVar 2) (rNil))) (gNm 4) (l1__law_history)) (sRet (mV (dVar 3))))
def d__law_history : DenF := fnD 3 7 b__law_history
def b__law_times : SM := sRet (mV (dCall gLen (rCons (mR (dCl d__law_values (aVal (mV (dSl (dVar 0) (pNo) (pSm (dVar 2)))) (aVal (mV (dVar 1)) (aNil))))) (rNil))))
def d__law_times : DenF := fnD 3 3 b__law_times
def t1__law_wild : TM := tOrM (tBoo (dBin gEq (dVar 6) (dVar 4))) (tBoo (dBin gEq (mR (dCl d__law_next (aIo 0 (aVal (mV (dC (.int 3))) (aNil))))) (dC (.int 0))))
def b__law_wild : SM := sSeq (sAsg (gNm 3) (mV (dBin gAdd (dC (.int 1)) (mR (dCl d__law_next (aIo 0 (aVal (mV (dVar 2)) (aNil)))))))) (sSeq (sAsg (gNm 4) (mV (dBin gIx (dVar 1) (mR (dCl d__law_next (aIo 0 (aVal (mV (dCall gLen (rCons (dVar 1) (rNil)))) (aNil)))))))) (sSeq (sAsg (gNm 5) (mV (dCall gTuple (rCons (mR (mF (oLc (iSq (mV (dVar 1))) (gNm 6) (t1__law_wild) (mV (dVar 6)) [6]))) (rNil))))) (sSeq (sAsg (gNm 7) (dCl d__law_next (aIo 0 (aVal (mV (dC (.int 8))) (aNil))))) (sSeq (sIf (tBoo (dBin gLt (dVar 7) (dC (.int 3)))) (sRet (vTup (vCons (mV (dBin gIx (mR (mF (oLst (vCons (mV (dC (.str "wrote"))) (vCons (mV (dC (.str "among"))) (vCons (mV (dC (.str "wrote"))) (vNil))))))) (dVar 7))) (vCons (mV (dVar 3)) (vCons (mV (dVar 5)) (vNil)))))) (sNil)) (sSeq (sIf (tBoo (dBin gEq (dVar 7) (dC (.int 3)))) (sRet (vTup (vCons (mV (dC (.str "many"))) (vCons (mV (dVar 3)) (vCons (mV (dBin gAdd (dC (.int 1)) (mR (dCl d__law_next (aIo 0 (aVal (mV (dBin gAdd (dCall gLen (rCons (dVar 1) (rNil))) (dC (.int 1)))) (aNil))))))) (vNil)))))) (sNil)) (sSeq (sIf (tBoo (dBin gEq (dVar 7) (dC (.int 4)))) (sRet (vTup (vCons (mV (dC (.str "did"))) (vCons (mV (dVar 3)) (vCons (mV (dVar 4)) (vNil)))))) (sNil)) (sSeq (sIf (tBoo (dBin gLt (dVar 7) (dC (.int 7)))) (sRet (vTup (vCons (mV (dC (.str "times"))) (vCons (mV (dVar 4)) (vCons (mV (dVar 3)) (vCons (dCl d__law_next (aIo 0 (aVal (mV (dBin gAdd (dVar 3) (dC (.int 2)))) (aNil)))) (vNil))))))) (sNil)) (sRet (vTup (vCons (mV (dC (.str "value"))) (vCons (mV (dVar 4)) (vCons (mV (dBin gAdd (dC (.int 1)) (mR (dCl d__law_next (aIo 0 (aVal (mV (dC (.int 3))) (aNil))))))) (vCons (dCl d__law_next (aIo 0 (aVal (mV (dC (.int 3))) (aNil)))) (vNil))))))))))))))
def d__law_wild : DenF := fnD 3 8 b__law_wild
def l1__law_stretches : SM := sIf (tAndM (tBoo (dBin gEq (dBin gIx (dVar 5) (dC (.int 0))) (dC (.str "times")))) (tBoo (dBin gEq (dBin gIx (dVar 5) (dC (.int 1))) (dVar 3)))) (sSetD 4 (dBin gIx (dVar 5) (dC (.int 2))) (mV (dBin gIx (dVar 5) (dC (.int 3))))) (sNil)
def l2__law_stretches : SM := sIf (tBoo (dBin gGt (dVar 7) (dC (.int 0)))) (sSeq (sApp 2 (vTup (vCons (mV (dVar 3)) (vCons (mV (dBin gAdd (dVar 6) (dC (.int 1)))) (vCons (mV (dVar 7)) (vCons (mV (dBin gSub (dDIx 4 (dVar 7)) (dDIx 4 (dVar 6)))) (vCons (mV (dBin gSub (dDIx 4 (dVar 7)) (dDIx 4 (dVar 6)))) (vNil)))))))) (sAsg (gNm 6) (mV (dVar 7)))) (sNil)
def l3__law_stretches : SM := sSeq (sSetO 4 (oDisp1 (mV (dC (.int 0))) (mV (dC (.int 0))))) (sSeq (sFor (iSq (mV (dVar 1))) (gNm 5) (l1__law_stretches)) (sSeq (sAsg (gNm 6) (mV (dC (.int 0)))) (sSeq (sFor (iSq (mF (oCall gSorted (rCons (mR (mF (oKeysD 4))) (rNil))))) (gNm 7) (l2__law_stretches)) (sIf (tBoo (dBin gLt (dVar 6) (mR (dCl d__law_head (aVal (mV (dVar 1)) (aNil)))))) (sApp 2 (vTup (vCons (mV (dVar 3)) (vCons (mV (dBin gAdd (dVar 6) (dC (.int 1)))) (vCons (dCl d__law_head (aVal (mV (dVar 1)) (aNil))) (vCons (mV (dC (.int 0))) (vCons (mV (dBin gSub (mR (dCl d__law_head (aVal (mV (dVar 1)) (aNil)))) (dVar 6))) (vNil)))))))) (sNil)))))
def b__law_stretches : SM := sSeq (sSetO 2 (oLst (vNil))) (sSeq (sFor (iSq (mV (dVar 0))) (gNm 3) (l3__law_stretches)) (sRet (mV (dVar 2))))
def d__law_stretches : DenF := fnD 2 8 b__law_stretches
def c1__law_clash : VM := mV (dBin gIn (dVar 5) (dVar 0))
def l1__law_clash : SM := sSeq (sAsg (gNm 4) (vIf (tBoo (dBin gIn (dBin gIx (dVar 3) (dC (.int 0))) (mR (vTup (vCons (mV (dC (.str "wrote"))) (vCons (mV (dC (.str "among"))) (vNil))))))) (mV (dBin gIx (dVar 3) (dC (.int 2)))) (mF (oIf (tBoo (dBin gEq (dBin gIx (dVar 3) (dC (.int 0))) (dC (.str "did")))) (oLst (vCons (mV (dBin gIx (dVar 3) (dC (.int 2)))) (vNil))) (oLst (vNil)))))) (sSeq (sAsg (gNm 4) (vIf (tBoo (dBin gEq (dBin gIx (dVar 3) (dC (.int 0))) (dC (.str "times")))) (mF (oLst (vCons (mV (dBin gIx (dVar 3) (dC (.int 1)))) (vNil)))) (mV (dVar 4)))) (sSeq (sIf (tNotM (tTru (dCall gAll2 (rCons (mR (mF (oLc (iSq (mV (dVar 4))) (gNm 5) (tYesM) (c1__law_clash) [5]))) (rNil))))) (sRet (mV (dC (.bool true)))) (sNil)) (sSeq (sIf (tBoo (dBin gIn (dBin gIx (dVar 3) (dC (.int 0))) (mR (vTup (vCons (mV (dC (.str "many"))) (vCons (mV (dC (.str "wrote"))) (vNil))))))) (sSeq (sAsg (gNm 6) (vIf (tBoo (dBin gEq (dBin gIx (dVar 3) (dC (.int 0))) (dC (.str "many")))) (mV (dBin gIx (dVar 3) (dC (.int 2)))) (mV (dCall gLen (rCons (dBin gIx (dVar 3) (dC (.int 2))) (rNil)))))) (sIf (tBoo (dBin gNe (dDSd 2 (dBin gIx (dVar 3) (dC (.int 1))) (mV (dVar 6))) (dVar 6))) (sRet (mV (dC (.bool true)))) (sNil))) (sNil)) (sIf (tAndM (tBoo (dBin gEq (dBin gIx (dVar 3) (dC (.int 0))) (dC (.str "value")))) (tBoo (dBin gNe (dDSd 2 (dSl (dVar 3) (pSm (dC (.int 1))) (pSm (dC (.int 3)))) (mV (dBin gIx (dVar 3) (dC (.int 3))))) (dBin gIx (dVar 3) (dC (.int 3)))))) (sRet (mV (dC (.bool true)))) (sNil)))))
def l2__law_clash : SM := sIf (tAndM (tBoo (dBin gEq (dBin gIx (dVar 3) (dC (.int 0))) (dC (.str "times")))) (tAndM (tBoo (dBin gEq (dBin gIx (dVar 3) (dC (.int 1))) (dVar 5))) (tBoo (dBin gNe (dDSd 7 (dBin gIx (dVar 3) (dC (.int 2))) (mV (dBin gIx (dVar 3) (dC (.int 3))))) (dBin gIx (dVar 3) (dC (.int 3))))))) (sRet (mV (dC (.bool true)))) (sNil)
def t1__law_clash : TM := tBoo (dBin gEq (dVar 3) (mR (vTup (vCons (mV (dC (.str "did"))) (vCons (mV (dVar 10)) (vCons (mV (dVar 5)) (vNil)))))))
def t2__law_clash : TM := tAndM (tBoo (dBin gEq (dSl (dVar 3) (pNo) (pSm (dC (.int 2)))) (mR (vTup (vCons (mV (dC (.str "wrote"))) (vCons (mV (dVar 10)) (vNil))))))) (tBoo (dBin gIn (dVar 5) (dBin gIx (dVar 3) (dC (.int 2)))))
def t3__law_clash : TM := tAndM (tBoo (dBin gIn (dBin gIx (dVar 3) (dC (.int 0))) (mR (vTup (vCons (mV (dC (.str "wrote"))) (vCons (mV (dC (.str "among"))) (vNil))))))) (tAndM (tBoo (dBin gEq (dBin gIx (dVar 3) (dC (.int 1))) (dVar 10))) (tBoo (dBin gNotIn (dVar 5) (dBin gIx (dVar 3) (dC (.int 2))))))
def l3__law_clash : SM := sSeq (sSetO 11 (oLc (iSq (mV (dVar 1))) (gNm 3) (t1__law_clash) (mV (dC (.int 1))) [3])) (sSeq (sAsg (gNm 11) (mV (dBin gAdd (dVar 11) (mR (mF (oLc (iSq (mV (dVar 1))) (gNm 3) (t2__law_clash) (mV (dC (.int 1))) [3])))))) (sSeq (sSetO 12 (oLc (iSq (mV (dVar 1))) (gNm 3) (t3__law_clash) (mV (dC (.int 1))) [3])) (sIf (tAndM (tTru (dVar 11)) (tTru (dVar 12))) (sRet (mV (dC (.bool true)))) (sNil))))
def l4__law_clash : SM := sSeq (sSetO 7 (oDisp1 (mV (dC (.int 0))) (mV (dC (.int 0))))) (sSeq (sFor (iSq (mV (dVar 1))) (gNm 3) (l2__law_clash)) (sSeq (sSetO 8 (oLc (iSq (mF (oCall gSorted (rCons (mR (mF (oKeysD 7))) (rNil))))) (gNm 9) (tYesM) (mV (dDIx 7 (dVar 9))) [9])) (sSeq (sIf (tBoo (dBin gNe (dVar 8) (mR (mF (oCall gSorted (rCons (dVar 8) (rNil))))))) (sRet (mV (dC (.bool true)))) (sNil)) (sFor (iRg2 (rCons (dC (.int 1)) (rCons (dBin gAdd (mR (dCl d__law_head (aVal (mV (dVar 1)) (aNil)))) (dC (.int 1))) (rNil)))) (gNm 10) (l3__law_clash)))))
def b__law_clash : SM := sSeq (sSetO 2 (oNewD)) (sSeq (sFor (iSq (mV (dVar 1))) (gNm 3) (l1__law_clash)) (sSeq (sFor (iSq (mV (dVar 0))) (gNm 5) (l4__law_clash)) (sRet (mV (dC (.bool false))))))
def d__law_clash : DenF := fnD 2 13 b__law_clash
def l1_bounds : SM := sSeq (sAsg (gNm 4) (dCl d_numbers_at (aVal (mV (dVar 1)) (aVal (mV (dVar 3)) (aNil))))) (sApp 2 (vIf (tTru (dVar 4)) (vTup (vCons (mV (dBin gIx (dVar 4) (dC (.int 0)))) (vCons (mV (dBin gIx (dVar 4) (dC (.int 0)))) (vNil)))) (vTup (vCons (mV (dC (.int 1))) (vCons (mV (dCall gLen (rCons (dVar 0) (rNil)))) (vNil))))))
def b_bounds : SM := sSeq (sSetO 2 (oLst (vNil))) (sSeq (sFor (iRg2 (rCons (dC (.int 1)) (rCons (dBin gAdd (mR (dCl d_head_of (aVal (mV (dVar 1)) (aNil)))) (dC (.int 1))) (rNil)))) (gNm 3) (l1_bounds)) (sRet (mV (dVar 2))))
def d_bounds : DenF := fnD 2 5 b_bounds
def l1_stretches_of : SM := sSeq (sAsg (gNm 5) (mV (dBin gSub (dBin gIx (dBin gIx (dVar 2) (dVar 4)) (dC (.int 1))) (dBin gIx (dBin gIx (dVar 2) (dBin gSub (dVar 4) (dC (.int 1)))) (dC (.int 1)))))) (sApp 3 (vTup (vCons (mV (dVar 1)) (vCons (mV (dBin gAdd (dBin gIx (dBin gIx (dVar 2) (dBin gSub (dVar 4) (dC (.int 1)))) (dC (.int 0))) (dC (.int 1)))) (vCons (mV (dBin gIx (dBin gIx (dVar 2) (dVar 4)) (dC (.int 0)))) (vCons (mV (dVar 5)) (vCons (mV (dVar 5)) (vNil))))))))
def b_stretches_of : SM := sSeq (sAsg (gNm 2) (dCl d_marks_of (aVal (mV (dVar 0)) (aVal (mV (dVar 1)) (aNil))))) (sSeq (sSetO 3 (oLst (vNil))) (sSeq (sFor (iRg2 (rCons (dC (.int 1)) (rCons (dCall gLen (rCons (dVar 2) (rNil))) (rNil)))) (gNm 4) (l1_stretches_of)) (sSeq (sAsg (gNm 6) (mV (dBin gIx (dBin gIx (dVar 2) (dUn gNeg (dC (.int 1)))) (dC (.int 0))))) (sSeq (sAsg (gNm 7) (dCl d_head_of (aVal (mV (dVar 0)) (aNil)))) (sSeq (sIf (tBoo (dBin gLt (dVar 6) (dVar 7))) (sApp 3 (vTup (vCons (mV (dVar 1)) (vCons (mV (dBin gAdd (dVar 6) (dC (.int 1)))) (vCons (mV (dVar 7)) (vCons (mV (dC (.int 0))) (vCons (mV (dBin gSub (dVar 7) (dVar 6))) (vNil)))))))) (sNil)) (sRet (mV (dVar 3))))))))
def d_stretches_of : DenF := fnD 2 8 b_stretches_of
def t1_count_cells : TM := tBoo (dBin gIn (mR (dCl d_cell (aVal (mV (dVar 0)) (aVal (mV (dBin gIx (dVar 3) (dC (.int 0)))) (aVal (mV (dBin gIx (dVar 3) (dC (.int 1)))) (aNil)))))) (dVar 2))
def b_count_cells : SM := sRet (mV (dCall gLen (rCons (mR (mF (oLc (iSq (mV (dVar 1))) (gNm 3) (t1_count_cells) (mV (dVar 3)) [3]))) (rNil))))
def d_count_cells : DenF := fnD 3 4 b_count_cells
def t1__law_told : TM := tOrM (tBoo (dBin gIn (dVar 8) (dVar 4))) (tBoo (dBin gEq (mR (dCl d__law_next (aIo 0 (aVal (mV (dC (.int 2))) (aNil))))) (dC (.int 0))))
def b__law_told : SM := sSeq (sAsg (gNm 3) (mV (dBin gAdd (dC (.int 1)) (mR (dCl d__law_next (aIo 0 (aVal (mV (dCall gLen (rCons (dVar 2) (rNil)))) (aNil)))))))) (sSeq (sAsg (gNm 4) (mV (dCall gTuple (rCons (mR (mF (oLc (iSq (mV (dBin gIx (dVar 2) (dBin gSub (dVar 3) (dC (.int 1)))))) (gTp [gNm 5, gNm 6]) (tYesM) (mV (dVar 5)) [5, 6]))) (rNil))))) (sSeq (sAsg (gNm 5) (mV (dBin gIx (dVar 1) (mR (dCl d__law_next (aIo 0 (aVal (mV (dCall gLen (rCons (dVar 1) (rNil)))) (aNil)))))))) (sSeq (sAsg (gNm 7) (dCl d__law_next (aIo 0 (aVal (mV (dC (.int 9))) (aNil))))) (sSeq (sIf (tBoo (dBin gEq (dVar 7) (dC (.int 0)))) (sRet (vTup (vCons (mV (dC (.str "wrote"))) (vCons (mV (dVar 3)) (vCons (mV (dVar 4)) (vNil)))))) (sNil)) (sSeq (sIf (tBoo (dBin gEq (dVar 7) (dC (.int 1)))) (sRet (vTup (vCons (mV (dC (.str "many"))) (vCons (mV (dVar 3)) (vCons (mV (dCall gLen (rCons (dVar 4) (rNil)))) (vNil)))))) (sNil)) (sSeq (sIf (tBoo (dBin gEq (dVar 7) (dC (.int 2)))) (sRet (vTup (vCons (mV (dC (.str "among"))) (vCons (mV (dVar 3)) (vCons (mV (dCall gTuple (rCons (mR (mF (oLc (iSq (mV (dVar 1))) (gNm 8) (t1__law_told) (mV (dVar 8)) [8]))) (rNil)))) (vNil)))))) (sNil)) (sSeq (sIf (tBoo (dBin gEq (dVar 7) (dC (.int 3)))) (sRet (vTup (vCons (mV (dC (.str "did"))) (vCons (mV (dVar 3)) (vCons (mV (dBin gIx (dVar 4) (mR (dCl d__law_next (aIo 0 (aVal (mV (dCall gLen (rCons (dVar 4) (rNil)))) (aNil))))))) (vNil)))))) (sNil)) (sSeq (sIf (tBoo (dBin gLt (dVar 7) (dC (.int 6)))) (sRet (vTup (vCons (mV (dC (.str "times"))) (vCons (mV (dVar 5)) (vCons (mV (dVar 3)) (vCons (dCl d__law_times (aVal (mV (dVar 2)) (aVal (mV (dVar 5)) (aVal (mV (dVar 3)) (aNil))))) (vNil))))))) (sNil)) (sSeq (sIf (tBoo (dBin gEq (dVar 7) (dC (.int 8)))) (sRet (vTup (vCons (mV (dC (.str "head"))) (vCons (mV (dVar 3)) (vNil))))) (sNil)) (sSeq (sAsg (gNm 9) (dCl d__law_values (aVal (mV (dVar 2)) (aVal (mV (dVar 5)) (aNil))))) (sSeq (sAsg (gNm 10) (mV (dBin gAdd (dC (.int 1)) (mR (dCl d__law_next (aIo 0 (aVal (mV (dC (.int 4))) (aNil)))))))) (sRet (vTup (vCons (mV (dC (.str "value"))) (vCons (mV (dVar 5)) (vCons (mV (dVar 10)) (vCons (vIf (tBoo (dBin gLe (dVar 10) (dCall gLen (rCons (dVar 9) (rNil))))) (mV (dBin gIx (dVar 9) (dBin gSub (dVar 10) (dC (.int 1))))) (dCl d__law_next (aIo 0 (aVal (mV (dC (.int 3))) (aNil))))) (vNil))))))))))))))))))
def d__law_told : DenF := fnD 3 11 b__law_told
def l1__law_right : SM := sIf (tAndM (tBoo (dBin gLe (dVar 11) (dVar 9))) (tBoo (dBin gLe (dVar 9) (dVar 12)))) (sSeq (sAsg (gNm 15) (dCl d__law_cell (aVal (mV (dVar 1)) (aVal (mV (dVar 9)) (aVal (mV (dVar 10)) (aNil)))))) (sSeq (sAsg (gNm 16) (mV (dBin gIn (mR (vTup (vCons (mV (dVar 10)) (vCons (mV (dVar 11)) (vCons (mV (dVar 12)) (vNil)))))) (dVar 5)))) (sIf (tBoo (dBin gNe (dBin gIn (dVar 9) (dVar 4)) (dVar 16))) (sSeq (sAsg (gNm 17) (vIf (tBoo (dBin gEq (dVar 3) (dC (.str "full")))) (mV (dVar 16)) (mV (dNot (dVar 16))))) (sSeq (sAsg (gNm 7) (mV (dBin gAdd (dVar 7) (mR (vIf (tAndM (tTru (dVar 17)) (tBoo (dBin gEq (dVar 15) (dC (.int 2))))) (mV (dC (.int 1))) (mV (dC (.int 0)))))))) (sAsg (gNm 8) (mV (dBin gAdd (dVar 8) (mR (vIf (tAndM (tNotM (tTru (dVar 17))) (tBoo (dBin gGt (dVar 15) (dC (.int 0))))) (mV (dC (.int 1))) (mV (dC (.int 0)))))))))) (sNil)))) (sNil)
def l2__law_right : SM := sSeq (sIf (tAndM (tBoo (dBin gIn (dVar 9) (dVar 4))) (tBoo (dBin gEq (dVar 3) (dC (.str "full"))))) (sAsg (gNm 7) (mV (dBin gAdd (dVar 7) (dBin gIx (mR (dCl d__law_bounds (aVal (mV (dVar 0)) (aVal (mV (dVar 1)) (aVal (mV (dVar 9)) (aNil)))))) (dC (.int 0)))))) (sNil)) (sSeq (sIf (tAndM (tBoo (dBin gIn (dVar 9) (dVar 4))) (tBoo (dBin gEq (dVar 3) (dC (.str "empty"))))) (sAsg (gNm 8) (mV (dBin gAdd (dVar 8) (dBin gIx (mR (dCl d__law_bounds (aVal (mV (dVar 0)) (aVal (mV (dVar 1)) (aVal (mV (dVar 9)) (aNil)))))) (dC (.int 1)))))) (sNil)) (sFor (iSq (mV (dVar 6))) (gTp [gNm 10, gNm 11, gNm 12, gNm 13, gNm 14]) (l1__law_right)))
def l3__law_right : SM := sIf (tBoo (dBin gIn (mR (vTup (vCons (mV (dVar 10)) (vCons (mV (dVar 11)) (vCons (mV (dVar 12)) (vNil)))))) (dVar 5))) (sSeq (sAsg (gNm 8) (mV (dBin gAdd (dVar 8) (mR (vIf (tBoo (dBin gEq (dVar 3) (dC (.str "full")))) (mV (dVar 14)) (mV (dC (.int 0)))))))) (sAsg (gNm 7) (mV (dBin gAdd (dVar 7) (mR (vIf (tBoo (dBin gEq (dVar 3) (dC (.str "empty")))) (mV (dVar 13)) (mV (dC (.int 0))))))))) (sNil)
def b__law_right : SM := sSeq (sAsg (gTp [gNm 3, gNm 4, gNm 5]) (mV (dVar 2))) (sSeq (sAsg (gNm 6) (dCl d__law_stretches (aVal (mV (dVar 0)) (aVal (mV (dVar 1)) (aNil))))) (sSeq (sAsg (gNm 7) (mV (dC (.int 0)))) (sSeq (sAsg (gNm 8) (mV (dC (.int 0)))) (sSeq (sFor (iRg2 (rCons (dC (.int 1)) (rCons (dBin gAdd (mR (dCl d__law_head (aVal (mV (dVar 1)) (aNil)))) (dC (.int 1))) (rNil)))) (gNm 9) (l2__law_right)) (sSeq (sFor (iSq (mV (dVar 6))) (gTp [gNm 10, gNm 11, gNm 12, gNm 13, gNm 14]) (l3__law_right)) (sRet (mV (dBin gGt (dVar 7) (dVar 8)))))))))
def d__law_right : DenF := fnD 3 18 b__law_right
def i1_stretches : IM := iSq (dCl d_stretches_of (aVal (mV (dVar 1)) (aVal (mV (dVar 2)) (aNil))))
def b_stretches : SM := sRet (mF (oLc2 (iSq (mV (dVar 0))) (gNm 2) (tYesM) (i1_stretches) (gNm 3) (tYesM) (mV (dVar 3)) [2, 3] [3]))
def d_stretches : DenF := fnD 2 4 b_stretches
def c1__law_news : VM := dCl d__law_told (aIo 0 (aVal (mV (dVar 1)) (aVal (mV (dVar 2)) (aNil))))
def b__law_news : SM := sSeq (sIf (tNotM (tTru (dVar 2))) (sRet (mF (oLst (vNil)))) (sNil)) (sRet (dCl d__law_once (aVal (mF (oLc (iRg1 (rCons (mR (dCl d__law_next (aIo 0 (aVal (mV (dBin gAdd (dVar 3) (dC (.int 1)))) (aNil))))) (rNil))) (gNm 4) (tYesM) (c1__law_news) [4])) (aNil))))
def d__law_news : DenF := fnD 4 5 b__law_news
def t1_is_right : TM := tBoo (dBin gNotIn (dVar 8) (dVar 4))
def t2_is_right : TM := tBoo (dBin gIn (dSl (dVar 11) (pNo) (pSm (dC (.int 3)))) (dVar 5))
def t3_is_right : TM := tBoo (dBin gNotIn (dSl (dVar 11) (pNo) (pSm (dC (.int 3)))) (dVar 5))
def c1_is_right : VM := mV (dBin gIx (dBin gIx (dVar 6) (dBin gSub (dVar 8) (dC (.int 1)))) (dC (.int 0)))
def c2_is_right : VM := mV (dBin gIx (dVar 11) (dC (.int 4)))
def c3_is_right : VM := mV (dBin gIx (dVar 11) (dC (.int 3)))
def c4_is_right : VM := mV (dBin gIx (dBin gIx (dVar 6) (dBin gSub (dVar 8) (dC (.int 1)))) (dC (.int 1)))
def b_is_right : SM := sSeq (sAsg (gTp [gNm 3, gNm 4, gNm 5]) (mV (dVar 2))) (sSeq (sAsg (gNm 6) (dCl d_bounds (aVal (mV (dVar 0)) (aVal (mV (dVar 1)) (aNil))))) (sSeq (sSetO 7 (oLc (iRg2 (rCons (dC (.int 1)) (rCons (dBin gAdd (dCall gLen (rCons (dVar 6) (rNil))) (dC (.int 1))) (rNil)))) (gNm 8) (t1_is_right) (mV (dVar 8)) [8])) (sSeq (sAsg (gNm 9) (dCl d_stretches (aVal (mV (dVar 0)) (aVal (mV (dVar 1)) (aNil))))) (sSeq (sSetO 10 (oLc (iSq (mV (dVar 9))) (gNm 11) (t2_is_right) (mV (dVar 11)) [11])) (sSeq (sSetO 12 (oLc (iSq (mV (dVar 9))) (gNm 11) (t3_is_right) (mV (dVar 11)) [11])) (sSeq (sIf (tBoo (dBin gEq (dVar 3) (dC (.str "full")))) (sSeq (sAsg (gNm 13) (mV (dCall gSum (rCons (mR (mF (oLc (iSq (mV (dVar 4))) (gNm 8) (tYesM) (c1_is_right) [8]))) (rNil))))) (sSeq (sAug 13 gAddI (mR (dCl d_count_cells (aVal (mV (dVar 1)) (aVal (dCl d_cells (aVal (mV (dVar 7)) (aVal (mV (dVar 10)) (aNil)))) (aVal (vTup (vCons (mV (dC (.str "due"))) (vNil))) (aNil))))))) (sSeq (sAsg (gNm 14) (mV (dCall gSum (rCons (mR (mF (oLc (iSq (mV (dVar 10))) (gNm 11) (tYesM) (c2_is_right) [11]))) (rNil))))) (sRet (mV (dBin gGt (dVar 13) (dBin gAdd (dVar 14) (mR (dCl d_count_cells (aVal (mV (dVar 1)) (aVal (dCl d_cells (aVal (mV (dVar 4)) (aVal (mV (dVar 12)) (aNil)))) (aVal (vTup (vCons (mV (dC (.str "due"))) (vCons (mV (dC (.str "free"))) (vNil)))) (aNil))))))))))))) (sNil)) (sSeq (sAsg (gNm 13) (mV (dCall gSum (rCons (mR (mF (oLc (iSq (mV (dVar 10))) (gNm 11) (tYesM) (c3_is_right) [11]))) (rNil))))) (sSeq (sAug 13 gAddI (mR (dCl d_count_cells (aVal (mV (dVar 1)) (aVal (dCl d_cells (aVal (mV (dVar 4)) (aVal (mV (dVar 12)) (aNil)))) (aVal (vTup (vCons (mV (dC (.str "due"))) (vNil))) (aNil))))))) (sSeq (sAsg (gNm 14) (mV (dCall gSum (rCons (mR (mF (oLc (iSq (mV (dVar 4))) (gNm 8) (tYesM) (c4_is_right) [8]))) (rNil))))) (sRet (mV (dBin gGt (dVar 13) (dBin gAdd (dVar 14) (mR (dCl d_count_cells (aVal (mV (dVar 1)) (aVal (dCl d_cells (aVal (mV (dVar 7)) (aVal (mV (dVar 10)) (aNil)))) (aVal (vTup (vCons (mV (dC (.str "due"))) (vCons (mV (dC (.str "free"))) (vNil)))) (aNil)))))))))))))))))))
def d_is_right : DenF := fnD 3 15 b_is_right
def b__law_same (F : DenF) : SM := sSeq (sIf (tTru (dIsi2 "list" "tuple" (dVar 1))) (sSeq (sIf (tOrM (tBoo (dBin gNe (dIsi "list" (dVar 1)) (dIsi "list" (dVar 0)))) (tBoo (dBin gNe (dIsi "tuple" (dVar 1)) (dIsi "tuple" (dVar 0))))) (sRet (mV (dC (.bool false)))) (sNil)) (sSeq (sIf (tBoo (dBin gNe (dCall gLen (rCons (dVar 0) (rNil))) (dCall gLen (rCons (dVar 1) (rNil))))) (sRet (mV (dC (.bool false)))) (sNil)) (sRet (mV (dCall gAll2 (rCons (mR (mF (oLc (iRg1 (rCons (dCall gLen (rCons (dVar 1) (rNil))) (rNil))) (gNm 2) (tYesM) (dCl F (aVal (mV (dBin gIx (dVar 0) (dVar 2))) (aVal (mV (dBin gIx (dVar 1) (dVar 2))) (aNil)))) [2]))) (rNil))))))) (sNil)) (sSeq (sIf (tBoo (dBin gIs (dVar 1) (dC .none))) (sRet (mV (dBin gIs (dVar 0) (dC .none)))) (sNil)) (sSeq (sIf (tBoo (dBin gNe (dIsi "bool" (dVar 1)) (dIsi "bool" (dVar 0)))) (sRet (mV (dC (.bool false)))) (sNil)) (sSeq (sIf (tTru (dIsi "str" (dVar 1))) (sRet (mV (dAnd (dIsi "str" (dVar 0)) (dBin gEq (dVar 0) (dVar 1))))) (sNil)) (sRet (mV (dAnd (dIsi "int" (dVar 0)) (dBin gEq (dVar 0) (dVar 1))))))))
def d__law_same : Nat → DenF
  | 0 => fun _ => none
  | n + 1 => fnD 2 3 (b__law_same (d__law_same n))
def c1_law : VM := dCl d__law_wild (aIo 1 (aVal (mV (dVar 2)) (aVal (mV (dVar 3)) (aNil))))
def t1_law : TM := tBoo (dBin gEq (mR (dCl d__law_next (aIo 1 (aVal (mV (dVar 9)) (aNil))))) (dC (.int 0)))
def c2_law : VM := mV (dSl (dVar 11) (pNo) (pSm (dC (.int 3))))
def t2_law : TM := tBoo (dBin gEq (mR (dCl d__law_next (aIo 1 (aVal (mV (dVar 9)) (aNil))))) (dC (.int 0)))
def l1_law : SM := sIf (tNotM (tTru (mR (dCl (d__law_same 8) (aVal (dCl d_is_right (aVal (mV (dVar 2)) (aVal (mV (dVar 5)) (aVal (vTup (vCons (mV (dVar 14)) (vCons (mV (dVar 12)) (vCons (mV (dVar 10)) (vNil))))) (aNil))))) (aVal (dCl d__law_right (aVal (mV (dVar 2)) (aVal (mV (dVar 5)) (aVal (vTup (vCons (mV (dVar 14)) (vCons (mV (dVar 12)) (vCons (mV (dVar 10)) (vNil))))) (aNil))))) (aNil))))))) (sRet (mV (dC (.bool false)))) (sNil)
def l2_law : SM := sSeq (sAsg (gNm 9) (mV (dBin gAdd (dC (.int 2)) (mR (dCl d__law_next (aIo 1 (aVal (mV (dC (.int 3))) (aNil)))))))) (sSeq (sAsg (gNm 10) (mV (dCall gTuple (rCons (mR (mF (oLc (iSq (mV (dVar 7))) (gNm 11) (t1_law) (c2_law) [11]))) (rNil))))) (sSeq (sAsg (gNm 12) (mV (dCall gTuple (rCons (mR (mF (oLc (iRg2 (rCons (dC (.int 1)) (rCons (dBin gAdd (mR (dCl d__law_head (aVal (mV (dVar 5)) (aNil)))) (dC (.int 1))) (rNil)))) (gNm 13) (t2_law) (mV (dVar 13)) [13]))) (rNil))))) (sFor (iSq (mF (oLst (vCons (mV (dC (.str "full"))) (vCons (mV (dC (.str "empty"))) (vNil)))))) (gNm 14) (l1_law))))
def b_law : SM := sSeq (sSetO 1 (oCl d__law_draw (aVal (mV (dVar 0)) (aNil)))) (sSeq (sAsg (gNm 2) (dCl d__law_shelf (aIo 1 (aVal (mV (dC (.int 5))) (aNil))))) (sSeq (sAsg (gNm 3) (mV (dBin gAdd (dC (.int 1)) (mR (dCl d__law_next (aIo 1 (aVal (mV (dC (.int 6))) (aNil)))))))) (sSeq (sAsg (gNm 4) (dCl d__law_history (aIo 1 (aVal (mV (dVar 2)) (aVal (mV (dVar 3)) (aNil)))))) (sSeq (sAsg (gNm 5) (mV (dBin gAdd (mR (dCl d__law_news (aIo 1 (aVal (mV (dVar 2)) (aVal (mV (dVar 4)) (aVal (mV (dC (.int 6))) (aNil))))))) (mR (mF (oLc (iRg1 (rCons (mR (dCl d__law_next (aIo 1 (aVal (mV (dC (.int 5))) (aNil))))) (rNil))) (gNm 6) (tYesM) (c1_law) [6])))))) (sSeq (sIf (tTru (mR (dCl d__law_clash (aVal (mV (dVar 2)) (aVal (mV (dVar 5)) (aNil)))))) (sRet (mV (dC (.bool true)))) (sNil)) (sSeq (sAsg (gNm 7) (dCl d__law_stretches (aVal (mV (dVar 2)) (aVal (mV (dVar 5)) (aNil))))) (sSeq (sIf (tNotM (tTru (mR (dCl (d__law_same 8) (aVal (dCl d_stretches (aVal (mV (dVar 2)) (aVal (mV (dVar 5)) (aNil)))) (aVal (mV (dVar 7)) (aNil))))))) (sRet (mV (dC (.bool false)))) (sNil)) (sSeq (sFor (iRg1 (rCons (dC (.int 6)) (rNil))) (gNm 8) (l2_law)) (sRet (mV (dC (.bool true))))))))))))
def d_law : DenF := fnD 1 15 b_law
end Vw
/-! Ve1: evaluating what was walked: loops and comprehensions over typed lists, plain data. -/
namespace Vx
open PySem PySem.Spec L2

/-! ### plain data: no bools, no dicts -/
def plain : Nat → PyData → Bool
  | _, .none => true
  | _, .int _ => true
  | _, .str x => PyData.strOk x
  | n + 1, .list ds => ds.all (plain n)
  | n + 1, .tuple ds => ds.all (plain n)
  | _, _ => false
theorem plain_up : ∀ {n m : Nat} {d : PyData}, plain n d = true → n ≤ m → plain m d = true
  | n, m, .none, _, _ => by cases m <;> rfl
  | n, m, .int _, _, _ => by cases m <;> rfl
  | n, m, .str x, h, _ => by cases n <;> cases m <;> exact h
  | n, m, .bool _, h, _ => by cases n <;> cases h
  | n, m, .dict _, h, _ => by cases n <;> cases h
  | 0, m, .list ds, h, _ => by cases h
  | 0, m, .tuple ds, h, _ => by cases h
  | n + 1, 0, .list ds, h, l => by omega
  | n + 1, 0, .tuple ds, h, l => by omega
  | n + 1, m + 1, .list ds, h, l => by
    have h : ds.all (plain n) = true := h
    show ds.all (plain m) = true
    rw [List.all_eq_true] at h ⊢
    exact fun x hx => plain_up (h x hx) (by omega)
  | n + 1, m + 1, .tuple ds, h, l => by
    have h : ds.all (plain n) = true := h
    show ds.all (plain m) = true
    rw [List.all_eq_true] at h ⊢
    exact fun x hx => plain_up (h x hx) (by omega)
theorem depthAll_le {ds : List PyData} {n : Nat} (h : ∀ d ∈ ds, d.depth ≤ n) : PyData.depthAll ds ≤ n := by
  induction ds with
  | nil => simp [PyData.depthAll]
  | cons d ds ih =>
    simp only [PyData.depthAll]
    exact Nat.max_le.mpr ⟨h d (by simp), ih fun x hx => h x (by simp [hx])⟩
theorem canAll {ds : List PyData} (h : ∀ d ∈ ds, d.canLay0 = true) : PyData.canLayAll0 ds = true := by
  induction ds with
  | nil => simp [PyData.canLayAll0]
  | cons d ds ih =>
    simp only [PyData.canLayAll0, Bool.and_eq_true]
    exact ⟨h d (by simp), ih fun x hx => h x (by simp [hx])⟩
theorem plain_dc : ∀ {n : Nat} {d : PyData}, plain n d = true → d.depth ≤ n ∧ d.canLay0 = true
  | n, .none, _ => by simp [PyData.depth, PyData.canLay0]
  | n, .int _, _ => by simp [PyData.depth, PyData.canLay0]
  | n, .str x, h => by
    have h : PyData.strOk x = true := by cases n <;> exact h
    simp [PyData.depth, PyData.canLay0, h]
  | n, .bool _, h => by cases n <;> cases h
  | n, .dict _, h => by cases n <;> cases h
  | 0, .list ds, h => by cases h
  | 0, .tuple ds, h => by cases h
  | n + 1, .list ds, h => by
    have h : ds.all (plain n) = true := h
    rw [List.all_eq_true] at h
    simp only [PyData.depth, PyData.canLay0]
    exact ⟨Nat.succ_le_succ (depthAll_le fun d hd => (plain_dc (h d hd)).1), canAll fun d hd => (plain_dc (h d hd)).2⟩
  | n + 1, .tuple ds, h => by
    have h : ds.all (plain n) = true := h
    rw [List.all_eq_true] at h
    simp only [PyData.depth, PyData.canLay0]
    exact ⟨Nat.succ_le_succ (depthAll_le fun d hd => (plain_dc (h d hd)).1), canAll fun d hd => (plain_dc (h d hd)).2⟩
theorem plain_shaped {n : Nat} {d : PyData} (h : plain n d = true) (hn : n ≤ 64 := by decide) : SeqAt.shaped d = true := by
  have := plain_dc h
  unfold SeqAt.shaped
  rw [Bool.and_eq_true]
  exact ⟨this.2, decide_eq_true (by omega)⟩
theorem eqvAll_iff {xs ys : List PyData} (h : ∀ x ∈ xs, ∀ y ∈ ys, (PyData.eqv x y = true ↔ x = y)) : PyData.eqvAll xs ys = true ↔ xs = ys := by
  induction xs generalizing ys with
  | nil => cases ys <;> simp [PyData.eqvAll]
  | cons x xs ih =>
    cases ys with
    | nil => simp [PyData.eqvAll]
    | cons y ys =>
      simp only [PyData.eqvAll, Bool.and_eq_true, List.cons.injEq]
      rw [h x (by simp) y (by simp), ih fun a ha b hb => h a (by simp [ha]) b (by simp [hb])]
theorem plain_eqv : ∀ {n m : Nat} {a b : PyData}, plain n a = true → plain m b = true → (PyData.eqv a b = true ↔ a = b)
  | n, m, .bool _, b, h, _ => by cases n <;> cases h
  | n, m, .dict _, b, h, _ => by cases n <;> cases h
  | n, m, a, .bool _, _, h => by cases m <;> cases h
  | n, m, a, .dict _, _, h => by cases m <;> cases h
  | n, m, .none, .none, _, _ => by simp [PyData.eqv]
  | n, m, .none, .int _, _, _ => by simp [PyData.eqv]
  | n, m, .none, .str _, _, _ => by simp [PyData.eqv]
  | n, m, .none, .list _, _, _ => by simp [PyData.eqv]
  | n, m, .none, .tuple _, _, _ => by simp [PyData.eqv]
  | n, m, .int _, .none, _, _ => by simp [PyData.eqv]
  | n, m, .int _, .int _, _, _ => by simp [PyData.eqv]
  | n, m, .int _, .str _, _, _ => by simp [PyData.eqv]
  | n, m, .int _, .list _, _, _ => by simp [PyData.eqv]
  | n, m, .int _, .tuple _, _, _ => by simp [PyData.eqv]
  | n, m, .str _, .none, _, _ => by simp [PyData.eqv]
  | n, m, .str _, .int _, _, _ => by simp [PyData.eqv]
  | n, m, .str _, .str _, _, _ => by simp [PyData.eqv]
  | n, m, .str _, .list _, _, _ => by simp [PyData.eqv]
  | n, m, .str _, .tuple _, _, _ => by simp [PyData.eqv]
  | n, m, .list _, .none, _, _ => by simp [PyData.eqv]
  | n, m, .list _, .int _, _, _ => by simp [PyData.eqv]
  | n, m, .list _, .str _, _, _ => by simp [PyData.eqv]
  | n, m, .list _, .tuple _, _, _ => by simp [PyData.eqv]
  | n, m, .tuple _, .none, _, _ => by simp [PyData.eqv]
  | n, m, .tuple _, .int _, _, _ => by simp [PyData.eqv]
  | n, m, .tuple _, .str _, _, _ => by simp [PyData.eqv]
  | n, m, .tuple _, .list _, _, _ => by simp [PyData.eqv]
  | 0, m, .list _, .list _, h, _ => by cases h
  | n + 1, 0, .list _, .list _, _, h => by cases h
  | 0, m, .tuple _, .tuple _, h, _ => by cases h
  | n + 1, 0, .tuple _, .tuple _, _, h => by cases h
  | n + 1, m + 1, .list xs, .list ys, h1, h2 => by
    have h1 : xs.all (plain n) = true := h1
    have h2 : ys.all (plain m) = true := h2
    rw [List.all_eq_true] at h1 h2
    simp only [PyData.eqv, PyData.list.injEq]
    exact eqvAll_iff fun x hx y hy => plain_eqv (h1 x hx) (h2 y hy)
  | n + 1, m + 1, .tuple xs, .tuple ys, h1, h2 => by
    have h1 : xs.all (plain n) = true := h1
    have h2 : ys.all (plain m) = true := h2
    rw [List.all_eq_true] at h1 h2
    simp only [PyData.eqv, PyData.tuple.injEq]
    exact eqvAll_iff fun x hx y hy => plain_eqv (h1 x hx) (h2 y hy)
theorem gEq_plain {n : Nat} {a b : PyData} {p : Prop} [Decidable p] (ha : plain n a = true) (hb : plain n b = true) (e : a = b ↔ p) (hn : n ≤ 64 := by decide) : gEq a b = some (.bool (decide p)) := by
  unfold gEq
  rw [if_pos ⟨plain_shaped ha hn, plain_shaped hb hn⟩]
  have := plain_eqv ha hb
  congr 2
  by_cases h : p
  · rw [decide_eq_true h]; exact this.mpr (e.mpr h)
  · rw [decide_eq_false h]
    cases q : PyData.eqv a b with
    | false => rfl
    | true => exact absurd (e.mp (this.mp q)) h
theorem gNe_plain {n : Nat} {a b : PyData} {p : Prop} [Decidable p] (ha : plain n a = true) (hb : plain n b = true) (e : a = b ↔ p) (hn : n ≤ 64 := by decide) : gNe a b = some (.bool (!decide p)) := by
  have h := gEq_plain ha hb e hn
  unfold gEq at h
  unfold gNe
  split at h
  · rename_i q
    rw [if_pos q]
    have : PyData.eqv a b = decide p := by simpa using h
    rw [this]
  · cases h
theorem any_eqv {n : Nat} {d : PyData} {ds : List PyData} {p : Prop} [Decidable p] (hd : plain n d = true) (hs : ∀ x ∈ ds, plain n x = true) (e : d ∈ ds ↔ p) : (ds.any fun z => PyData.eqv z d) = decide p := by
  by_cases h : p
  · rw [decide_eq_true h, List.any_eq_true]
    have := e.mpr h
    exact ⟨d, this, (plain_eqv hd hd).mpr rfl⟩
  · rw [decide_eq_false h, List.any_eq_false]
    intro x hx q
    have := (plain_eqv (hs x hx) hd).mp q
    subst this
    exact h (e.mp hx)
theorem gIn_list {n : Nat} {d : PyData} {ds : List PyData} {p : Prop} [Decidable p] (hd : plain n d = true) (hs : ∀ x ∈ ds, plain n x = true) (e : d ∈ ds ↔ p) (hn : n + 1 ≤ 64 := by decide) : gIn d (.list ds) = some (.bool (decide p)) := by
  have h2 : plain (n + 1) (.list ds) = true := List.all_eq_true.mpr hs
  show (if _ then _ else _) = _
  rw [if_pos ⟨plain_shaped hd (by omega), plain_shaped h2 hn⟩, any_eqv hd hs e]
theorem gIn_tuple {n : Nat} {d : PyData} {ds : List PyData} {p : Prop} [Decidable p] (hd : plain n d = true) (hs : ∀ x ∈ ds, plain n x = true) (e : d ∈ ds ↔ p) (hn : n + 1 ≤ 64 := by decide) : gIn d (.tuple ds) = some (.bool (decide p)) := by
  have h2 : plain (n + 1) (.tuple ds) = true := List.all_eq_true.mpr hs
  show (if _ then _ else _) = _
  rw [if_pos ⟨plain_shaped hd (by omega), plain_shaped h2 hn⟩, any_eqv hd hs e]
/-! ### comprehensions -/
theorem compD_map {α : Type} {g : GM} {t : TM} {m : VM} {vs : List Nat} {ρ : Rho} {enc : α → PyData} (p : α → Bool) (h : α → PyData) : ∀ {xs : List α}, (∀ x ∈ xs, ∃ ρ1, g (enc x) ρ = some ρ1 ∧ t ρ1 = some (p x, ρ1) ∧ (p x = true → m ρ1 = some (h x, ρ1)) ∧ wipeO ρ1 vs = some ρ) →
    compD g t m vs (xs.map enc) ρ = some ((xs.filter p).map h, ρ)
  | [], _ => rfl
  | x :: xs, H => by
    obtain ⟨ρ1, h1, h2, h3, h4⟩ := H x (by simp)
    have ih := compD_map p h (xs := xs) fun y hy => H y (by simp [hy])
    rw [List.map_cons]
    unfold compD
    rw [h1]
    show ((t ρ1).bind _) = _
    rw [h2]
    cases e : p x with
    | false =>
      show ((wipeO ρ1 vs).bind _) = _
      rw [h4, List.filter_cons_of_neg (by simp [e])]
      exact ih
    | true =>
      show ((m ρ1).bind _) = _
      rw [h3 e]
      show ((wipeO ρ1 vs).bind _) = _
      rw [h4, List.filter_cons_of_pos e, List.map_cons]
      show ((compD g t m vs (xs.map enc) ρ).map _) = _
      rw [ih]
      rfl
theorem comp2D_flat {α : Type} {g : GM} {t : TM} {it1 : IM} {g1 : GM} {t1 : TM} {m : VM} {vs vs1 : List Nat} {ρ : Rho} {enc : α → PyData} (p : α → Bool) (h : α → List PyData) : ∀ {xs : List α},
    (∀ x ∈ xs, ∃ ρ1, g (enc x) ρ = some ρ1 ∧ t ρ1 = some (p x, ρ1) ∧ (p x = true → ∃ ds ρ2 ρ3, it1 ρ1 = some (ds, ρ1) ∧ wipeO ρ1 vs1 = some ρ2 ∧ compD g1 t1 m vs1 ds ρ2 = some (h x, ρ3) ∧ wipeO ρ3 vs = some ρ) ∧ (p x = false → wipeO ρ1 vs = some ρ)) →
    comp2D g t it1 g1 t1 m vs vs1 (xs.map enc) ρ = some ((xs.filter p).flatMap h, ρ)
  | [], _ => rfl
  | x :: xs, H => by
    obtain ⟨ρ1, h1, h2, h3, h4⟩ := H x (by simp)
    have ih := comp2D_flat p h (xs := xs) fun y hy => H y (by simp [hy])
    rw [List.map_cons]
    unfold comp2D
    rw [h1]
    show ((t ρ1).bind _) = _
    rw [h2]
    cases e : p x with
    | false =>
      show ((wipeO ρ1 vs).bind _) = _
      rw [h4 e, List.filter_cons_of_neg (by simp [e])]
      exact ih
    | true =>
      obtain ⟨ds, ρ2, ρ3, k1, k2, k3, k4⟩ := h3 e
      show ((it1 ρ1).bind _) = _
      rw [k1]
      show ((wipeO ρ1 vs1).bind _) = _
      rw [k2]
      show ((compD g1 t1 m vs1 ds ρ2).bind _) = _
      rw [k3]
      show ((wipeO ρ3 vs).bind _) = _
      rw [k4, List.filter_cons_of_pos e, List.flatMap_cons]
      show ((comp2D g t it1 g1 t1 m vs vs1 (xs.map enc) ρ).map _) = _
      rw [ih]
      rfl
/-! ### loops -/
def nextL (g : GM) (m : SM) (ds : List PyData) : Fl → Rho → Option (Fl × Rho)
  | .nx, ρ => loopD g m ds ρ
  | .ct, ρ => loopD g m ds ρ
  | .bk, ρ => some (.nx, ρ)
  | .rt r, ρ => some (.rt r, ρ)
theorem loop_cons {g : GM} {m : SM} {d : PyData} {ds : List PyData} {ρ ρ1 ρ2 : Rho} {f : Fl} (h1 : g d ρ = some ρ1) (h2 : m ρ1 = some (f, ρ2)) : loopD g m (d :: ds) ρ = nextL g m ds f ρ2 := by
  show (g d ρ).bind _ = _
  rw [h1]
  show (m ρ1).bind _ = _
  rw [h2]
  cases f <;> rfl
theorem loop_inv {α : Type} {g : GM} {m : SM} {enc : α → PyData} {Post : Fl → Rho → Prop} (Inv : List α → Rho → Prop) (step : ∀ x xs ρ, Inv (x :: xs) ρ → ∃ ρ1 f ρ2, g (enc x) ρ = some ρ1 ∧ m ρ1 = some (f, ρ2) ∧ match f with
      | .nx => Inv xs ρ2
      | .ct => Inv xs ρ2
      | .bk => Post .nx ρ2
      | .rt r => Post (.rt r) ρ2) (done : ∀ ρ, Inv [] ρ → Post .nx ρ) : ∀ (xs : List α) (ρ : Rho), Inv xs ρ → ∃ f ρ', loopD g m (xs.map enc) ρ = some (f, ρ') ∧ Post f ρ'
  | [], ρ, h => ⟨.nx, ρ, rfl, done ρ h⟩
  | x :: xs, ρ, h => by
    obtain ⟨ρ1, f, ρ2, h1, h2, h3⟩ := step x xs ρ h
    rw [List.map_cons]
    rw [loop_cons h1 h2]
    cases f with
    | nx => exact loop_inv Inv step done xs ρ2 h3
    | ct => exact loop_inv Inv step done xs ρ2 h3
    | bk => exact ⟨_, _, rfl, h3⟩
    | rt r => exact ⟨_, _, rfl, h3⟩
end Vx
/-! Ve2: the combinators applied (for simp), comprehensions by their single turns. -/
namespace Vx
open PySem PySem.Spec L2
/-- a slot that may be set -/
def fr : Sl → Bool
  | .io _ => false
  | _ => true
@[simp] theorem fr_un : fr .un = true := rfl
@[simp] theorem fr_val (d : PyData) : fr (.val d) = true := rfl
@[simp] theorem fr_own (o : Own) : fr (.own o) = true := rfl
section
variable {ρ : Rho} {d : PyData} {i : Nat} {g : D2} {ma mb : EM} {va vb : VM} {m n : SM} {t u : TM}
@[simp] theorem a_fnD {k N : Nat} {B : SM} : fnD k N B ρ = if ρ.length = k then (match B (ρ ++ List.replicate (N - k) .un) with
    | some (.rt rv, ρ') => some (rv, backIn ρ ρ')
    | some (.nx, ρ') => some (.val .none, backIn ρ ρ')
    | _ => none) else none := rfl
@[simp] theorem a_sNil : sNil ρ = some (.nx, ρ) := rfl
@[simp] theorem a_sSeq : sSeq m n ρ = (m ρ).bind fun p => match p.1 with
  | .nx => n p.2
  | f => some (f, p.2) := rfl
@[simp] theorem a_sIf : sIf t m n ρ = (t ρ).bind fun p => if p.1 = true then m p.2 else n p.2 := rfl
@[simp] theorem a_sRet : sRet va ρ = (va ρ).map fun p => (.rt (.val p.1), p.2) := rfl
@[simp] theorem a_sRetO {o : OM} : sRetO o ρ = (o ρ).map fun p => (.rt (.own p.1), p.2) := rfl
@[simp] theorem a_sRetV : sRetV i ρ = match ρ[i]? with
  | some (.own o) => some (.rt (.own o), ρ.set i .un)
  | _ => none := rfl
@[simp] theorem a_sRetN : sRetN ρ = some (.rt (.val .none), ρ) := rfl
@[simp] theorem a_sBrk : sBrk ρ = some (.bk, ρ) := rfl
@[simp] theorem a_sCnt : sCnt ρ = some (.ct, ρ) := rfl
@[simp] theorem a_sDrop : sDrop ma ρ = (ma ρ).map fun p => (.nx, p.2) := rfl
@[simp] theorem a_sAsg {g : GM} : sAsg g va ρ = (va ρ).bind fun p => (g p.1 p.2).map fun ρ' => (.nx, ρ') := rfl
@[simp] theorem a_sSetO {o : OM} : sSetO i o ρ = (o ρ).bind fun p => (setSl p.2 i (.own p.1)).map fun ρ' => (.nx, ρ') := rfl
@[simp] theorem a_sFor {it : IM} {g : GM} : sFor it g m ρ = (it ρ).bind fun p => loopD g m p.1 p.2 := rfl
@[simp] theorem a_gNm : gNm i d ρ = setSl ρ i (.val d) := rfl
@[simp] theorem a_gTp {gs : List GM} {ds : List PyData} : gTp gs (.tuple ds) ρ = gAll gs ds ρ := rfl
@[simp] theorem a_gAll0 : gAll [] [] ρ = some ρ := rfl
@[simp] theorem a_gAll1 {g : GM} {gs : List GM} {ds : List PyData} : gAll (g :: gs) (d :: ds) ρ = (g d ρ).bind (gAll gs ds) := rfl
@[simp] theorem a_dC : dC d ρ = some (.dat d, ρ) := rfl
@[simp] theorem a_dVar : dVar i ρ = match ρ[i]? with
  | some .un => none
  | some _ => some (.sl i, ρ)
  | none => none := rfl
@[simp] theorem a_rdD : rd ρ (.dat d) = some d := rfl
@[simp] theorem a_rdS : rd ρ (.sl i) = match ρ[i]? with
    | some (.val d) => some d
    | some (.own (.lst ds)) => some (.list ds)
    | some (.io (.lst ds)) => some (.list ds)
    | _ => none := rfl
@[simp] theorem a_fzD : fz ρ (.dat d) = some (d, ρ) := rfl
@[simp] theorem a_fzS : fz ρ (.sl i) = match ρ[i]? with
    | some (.val d) => some (d, ρ)
    | some (.own (.lst ds)) => some (.list ds, ρ.set i (.val (.list ds)))
    | _ => none := rfl
@[simp] theorem a_dBin : dBin g ma mb ρ = (ma ρ).bind fun p => (mb p.2).bind fun q => (rd q.2 p.1).bind fun a => (rd q.2 q.1).bind fun b => (g a b).map fun d => (.dat d, q.2) := rfl
@[simp] theorem a_dUn {g : PyData → Option PyData} : dUn g ma ρ = (ma ρ).bind fun p => (rd p.2 p.1).bind fun a => (g a).map fun d => (.dat d, p.2) := rfl
@[simp] theorem a_rNil : rNil ρ = some ([], ρ) := rfl
@[simp] theorem a_rCons {r : RM} : rCons ma r ρ = (ma ρ).bind fun p => (r p.2).map fun q => (p.1 :: q.1, q.2) := rfl
@[simp] theorem a_rdAll0 : rdAll ρ [] = some [] := rfl
@[simp] theorem a_rdAll1 {r : Ref} {rs : List Ref} : rdAll ρ (r :: rs) = (rd ρ r).bind fun d => (rdAll ρ rs).map (d :: ·) := rfl
@[simp] theorem a_dCall {g : DL} {r : RM} : dCall g r ρ = (r ρ).bind fun p => (rdAll p.2 p.1).bind fun ds => (g ds).map fun d => (.dat d, p.2) := rfl
@[simp] theorem a_oCall {g : List PyData → Option (List PyData)} {r : RM} : oCall g r ρ = (r ρ).bind fun p => (rdAll p.2 p.1).bind fun ds => (g ds).map fun d => (.lst d, p.2) := rfl
@[simp] theorem a_oBin {g : PyData → PyData → Option (List PyData)} : oBin g ma mb ρ = (ma ρ).bind fun p => (mb p.2).bind fun q => (rd q.2 p.1).bind fun a => (rd q.2 q.1).bind fun b => (g a b).map fun d => (.lst d, q.2) := rfl
@[simp] theorem a_vNil : vNil ρ = some ([], ρ) := rfl
@[simp] theorem a_vCons {w : VsM} : vCons va w ρ = (va ρ).bind fun p => (w p.2).map fun q => (p.1 :: q.1, q.2) := rfl
@[simp] theorem a_vTup {w : VsM} : vTup w ρ = (w ρ).bind fun p => if p.1.length ≤ sizeLine then some (.tuple p.1, p.2) else none := rfl
@[simp] theorem a_oLst {w : VsM} : oLst w ρ = (w ρ).bind fun p => if p.1.length ≤ sizeLine then some (.lst p.1, p.2) else none := rfl
@[simp] theorem a_mV : mV ma ρ = (ma ρ).bind fun p => fz p.2 p.1 := rfl
@[simp] theorem a_mR : mR va ρ = (va ρ).map fun p => (.dat p.1, p.2) := rfl
@[simp] theorem a_mF {o : OM} : mF o ρ = (o ρ).bind fun p => match p.1 with
  | .lst ds => some (.list ds, p.2)
  | _ => none := rfl
@[simp] theorem a_tBoo : tBoo ma ρ = (ma ρ).bind fun p => match rd p.2 p.1 with
  | some (.bool b) => some (b, p.2)
  | _ => none := rfl
@[simp] theorem a_tTru : tTru ma ρ = (ma ρ).bind fun p => (rd p.2 p.1).bind fun d => (truD d).map fun b => (b, p.2) := rfl
@[simp] theorem a_tAndM : tAndM t u ρ = (t ρ).bind fun p => if p.1 = true then u p.2 else some (false, p.2) := rfl
@[simp] theorem a_tOrM : tOrM t u ρ = (t ρ).bind fun p => if p.1 = true then some (true, p.2) else u p.2 := rfl
@[simp] theorem a_tNotM : tNotM t ρ = (t ρ).map fun p => (!p.1, p.2) := rfl
@[simp] theorem a_tYesM : tYesM ρ = some (true, ρ) := rfl
@[simp] theorem a_vIf : vIf t va vb ρ = (t ρ).bind fun p => if p.1 = true then va p.2 else vb p.2 := rfl
@[simp] theorem a_oIf {o p : OM} : oIf t o p ρ = (t ρ).bind fun q => if q.1 = true then o q.2 else p q.2 := rfl
@[simp] theorem a_dAnd : dAnd ma mb ρ = (ma ρ).bind fun p => match rd p.2 p.1 with
  | some (.bool b) => if b = true then mb p.2 else some (.dat (.bool false), p.2)
  | _ => none := rfl
@[simp] theorem a_dOr : dOr ma mb ρ = (ma ρ).bind fun p => match rd p.2 p.1 with
  | some (.bool b) => if b = true then some (.dat (.bool true), p.2) else mb p.2
  | _ => none := rfl
@[simp] theorem a_dNot : dNot ma ρ = (ma ρ).bind fun p => match rd p.2 p.1 with
  | some (.bool b) => some (.dat (.bool !b), p.2)
  | _ => none := rfl
@[simp] theorem a_iSq : iSq va ρ = (va ρ).bind fun p => (seqOf p.1).map fun ds => (ds, p.2) := rfl
@[simp] theorem a_seqL {ds : List PyData} : seqOf (.list ds) = some ds := rfl
@[simp] theorem a_seqT {ds : List PyData} : seqOf (.tuple ds) = some ds := rfl
@[simp] theorem a_iRg1 {r : RM} : iRg1 r ρ = (r ρ).bind fun p => match rdAll p.2 p.1 with
  | some [.int j] => if j ≤ 16777216 ∧ -(2 ^ 62) ≤ j then some (rngD 0 j.toNat, p.2) else none
  | _ => none := rfl
@[simp] theorem a_iRg2 {r : RM} : iRg2 r ρ = (r ρ).bind fun p => match rdAll p.2 p.1 with
  | some [.int i, .int j] => if j - i ≤ 16777216 ∧ (-(2 ^ 62) ≤ i ∧ i < 2 ^ 62) ∧ -(2 ^ 62) ≤ j ∧ j < 2 ^ 62 then some (rngD i (j - i).toNat, p.2) else none
  | _ => none := rfl
@[simp] theorem a_wipe0 : wipeO ρ [] = some ρ := rfl
@[simp] theorem a_wipe1 {vs : List Nat} : wipeO ρ (i :: vs) = (wipeO ρ vs).bind fun ρ' => setSl ρ' i .un := rfl
theorem a_setSl {s : Sl} : setSl ρ i s = match ρ[i]? with
  | some (.io _) => none
  | some _ => some (ρ.set i s)
  | none => none := rfl
@[simp] theorem a_setN {s : Sl} (h : (ρ[i]?).map fr = some true) : setSl ρ i s = some (ρ.set i s) := by
  unfold setSl
  cases e : ρ[i]? with
  | none => rw [e] at h; cases h
  | some t =>
    rw [e] at h
    cases t with
    | io o => cases h
    | un => rfl
    | val d => rfl
    | own o => rfl
@[simp] theorem a_oLc {it : IM} {g : GM} {vs : List Nat} : oLc it g t va vs ρ = (it ρ).bind fun p => (wipeO p.2 vs).bind fun ρw => (compD g t va vs p.1 ρw).map fun r => (.lst r.1, r.2) := rfl
@[simp] theorem a_oLc2 {it it1 : IM} {g g1 : GM} {t1 : TM} {vs vs1 : List Nat} : oLc2 it g t it1 g1 t1 va vs vs1 ρ = (it ρ).bind fun p => (wipeO p.2 vs).bind fun ρw => (comp2D g t it1 g1 t1 va vs vs1 p.1 ρw).bind fun r => if r.1.length ≤ sizeLine then some (.lst r.1, r.2) else none := rfl
@[simp] theorem a_oDc {it : IM} {g : GM} {mk mv : VM} {vs : List Nat} : oDc it g t mk mv vs ρ = (it ρ).bind fun p => (wipeO p.2 vs).bind fun ρw => (compDct g t mk mv vs p.1 [] ρw).map fun r => (.dct r.1, r.2) := rfl
@[simp] theorem a_aNil : aNil ρ = some ([], ρ) := rfl
@[simp] theorem a_aVal {w : AsM} : aVal va w ρ = (va ρ).bind fun p => (w p.2).map fun q => (.d p.1 :: q.1, q.2) := rfl
@[simp] theorem a_aIo {w : AsM} : aIo i w ρ = match ρ[i]? with
  | some (.own _) => (w ρ).map fun q => (.io i :: q.1, q.2)
  | some (.io _) => (w ρ).map fun q => (.io i :: q.1, q.2)
  | _ => none := rfl
@[simp] theorem a_cCall {F : DenF} {w : AsM} : cCall F w ρ = (w ρ).bind fun p => if (iosOf p.1).Nodup then (mkIn p.2 p.1).bind fun ρ0 => (F ρ0).bind fun q => (putB p.2 p.1 q.2).map fun ρ2 => (q.1, ρ2) else none := rfl
@[simp] theorem a_dCl {F : DenF} {w : AsM} : dCl F w ρ = (cCall F w ρ).bind fun p => match p.1 with
  | .val d => some (d, p.2)
  | _ => none := rfl
@[simp] theorem a_oCl {F : DenF} {w : AsM} : oCl F w ρ = (cCall F w ρ).bind fun p => match p.1 with
  | .own o => some (o, p.2)
  | _ => none := rfl
@[simp] theorem a_sApp : sApp i va ρ = (lstAt ρ i).bind fun _ => (va ρ).bind fun p => (lstAt p.2 i).bind fun ds => if ds.length < sizeLine then some (.nx, updL p.2 i (ds ++ [p.1])) else none := rfl
@[simp] theorem a_sAug : sAug i g ma ρ = match ρ[i]? with
  | some (.val a) => (ma ρ).bind fun p => (rd p.2 p.1).bind fun b => (g a b).bind fun d => (setSl p.2 i (.val d)).map fun ρ' => (.nx, ρ')
  | _ => none := rfl
@[simp] theorem a_lstAt : lstAt ρ i = match ρ[i]? with
  | some (.own (.lst ds)) => some ds
  | some (.io (.lst ds)) => some ds
  | _ => none := by unfold lstAt; rfl
@[simp] theorem a_dSl {lo hi : PM} : dSl ma lo hi ρ = (ma ρ).bind fun p => (lo p.2).bind fun q => (hi q.2).bind fun r => (rd r.2 p.1).bind fun a => (gSl a q.1 r.1).map fun d => (.dat d, r.2) := rfl
@[simp] theorem a_oSl {lo hi : PM} : oSl ma lo hi ρ = (ma ρ).bind fun p => (lo p.2).bind fun q => (hi q.2).bind fun r => (rd r.2 p.1).bind fun a => (gSlL a q.1 r.1).map fun d => (.lst d, r.2) := rfl
@[simp] theorem a_pNo : pNo ρ = some (none, ρ) := rfl
@[simp] theorem a_pSm : pSm ma ρ = (ma ρ).bind fun p => match rd p.2 p.1 with
  | some (.int i) => some (some i, p.2)
  | _ => none := rfl
@[simp] theorem a_dDIx : dDIx i ma ρ = (dctAt ρ i).bind fun _ => (ma ρ).bind fun q => (rd q.2 q.1).bind fun kd => (keyD kd).bind fun k => (dctAt q.2 i).bind fun kvs => (kLook kvs k).map fun d => (.dat d, q.2) := rfl
end
/-! ### comprehensions by single turns -/
def stepD (g : GM) (t : TM) (m : VM) (vs : List Nat) (d : PyData) (ρ : Rho) : Option (Option PyData × Rho) := (g d ρ).bind fun ρ1 => (t ρ1).bind fun p => if p.1 = true then (m p.2).bind fun q => (wipeO q.2 vs).map fun ρ2 => (some q.1, ρ2) else (wipeO p.2 vs).map fun ρ2 => (none, ρ2)
theorem compD_cons {g : GM} {t : TM} {m : VM} {vs : List Nat} {d : PyData} {ds : List PyData} {ρ : Rho} : compD g t m vs (d :: ds) ρ = (stepD g t m vs d ρ).bind fun r => (compD g t m vs ds r.2).map fun u => (r.1.toList ++ u.1, u.2) := by
  show (g d ρ).bind _ = _
  unfold stepD
  cases g d ρ with
  | none => rfl
  | some ρ1 =>
    show (t ρ1).bind _ = Option.bind ((t ρ1).bind _) _
    cases t ρ1 with
    | none => rfl
    | some p =>
      obtain ⟨b, ρ2⟩ := p
      cases b with
      | true =>
        show (m ρ2).bind _ = Option.bind ((m ρ2).bind _) _
        cases m ρ2 with
        | none => rfl
        | some q =>
          show (wipeO q.2 vs).bind _ = Option.bind ((wipeO q.2 vs).map _) _
          cases wipeO q.2 vs <;> rfl
      | false =>
        show (wipeO ρ2 vs).bind _ = Option.bind ((wipeO ρ2 vs).map _) _
        cases wipeO ρ2 vs with
        | none => rfl
        | some ρ3 =>
          show compD g t m vs ds ρ3 = (compD g t m vs ds ρ3).map _
          cases compD g t m vs ds ρ3 <;> rfl
theorem compD_fm {α : Type} {g : GM} {t : TM} {m : VM} {vs : List Nat} {ρ : Rho} {enc : α → PyData} (f : α → Option PyData) : ∀ {xs : List α}, (∀ x ∈ xs, stepD g t m vs (enc x) ρ = some (f x, ρ)) → compD g t m vs (xs.map enc) ρ = some (xs.filterMap f, ρ)
  | [], _ => rfl
  | x :: xs, H => by
    rw [List.map_cons, compD_cons, H x (by simp)]
    show (compD g t m vs (xs.map enc) ρ).map _ = _
    rw [compD_fm f fun y hy => H y (by simp [hy]), List.filterMap_cons]
    cases f x <;> rfl
/-- each turn makes a value -/
theorem compD_mp {α : Type} {g : GM} {t : TM} {m : VM} {vs : List Nat} {ρ : Rho} {enc : α → PyData} (f : α → PyData) {xs : List α} (H : ∀ x ∈ xs, stepD g t m vs (enc x) ρ = some (some (f x), ρ)) : compD g t m vs (xs.map enc) ρ = some (xs.map f, ρ) := by
  rw [compD_fm (fun x => some (f x)) H]
  simp
/-- turns that change the slots -/
theorem compD_st {α β : Type} {g : GM} {t : TM} {m : VM} {vs : List Nat} {enc : α → PyData} {en2 : β → PyData} (Inv : Rho → Prop) (P : β → Prop) : ∀ (xs : List α) (ρ : Rho), (∀ x ∈ xs, ∀ ρ, Inv ρ → ∃ y ρ', stepD g t m vs (enc x) ρ = some (some (en2 y), ρ') ∧ P y ∧ Inv ρ') → Inv ρ →
    ∃ (ys : List β) (ρ' : Rho), compD g t m vs (xs.map enc) ρ = some (ys.map en2, ρ') ∧ ys.length = xs.length ∧ (∀ y ∈ ys, P y) ∧ Inv ρ'
  | [], ρ, _, h => ⟨[], ρ, rfl, rfl, by simp, h⟩
  | x :: xs, ρ, H, h => by
    obtain ⟨y, ρ1, e, py, h1⟩ := H x (by simp) ρ h
    obtain ⟨ys, ρ2, e2, l2, p2, h2⟩ := compD_st Inv P xs ρ1 (fun z hz => H z (by simp [hz])) h1
    refine ⟨y :: ys, ρ2, ?_, by simp [l2], by simpa using ⟨py, p2⟩, h2⟩
    rw [List.map_cons, compD_cons, e]
    show (compD g t m vs (xs.map enc) ρ1).map _ = _
    rw [e2]
    rfl
/-- turns that change the slots, what each makes -/
theorem compD_rel {α β : Type} {g : GM} {t : TM} {m : VM} {vs : List Nat} {enc : α → PyData} {en2 : β → PyData} (Inv : Rho → Prop) (P : α → β → Prop) : ∀ (xs : List α) (ρ : Rho), (∀ x ∈ xs, ∀ ρ, Inv ρ → ∃ y ρ', stepD g t m vs (enc x) ρ = some (some (en2 y), ρ') ∧ P x y ∧ Inv ρ') → Inv ρ →
    ∃ (ys : List β) (ρ' : Rho), compD g t m vs (xs.map enc) ρ = some (ys.map en2, ρ') ∧ Paired P xs ys ∧ Inv ρ'
  | [], ρ, _, h => ⟨[], ρ, rfl, .nil, h⟩
  | x :: xs, ρ, H, h => by
    obtain ⟨y, ρ1, e, py, h1⟩ := H x (by simp) ρ h
    obtain ⟨ys, ρ2, e2, p2, h2⟩ := compD_rel Inv P xs ρ1 (fun z hz => H z (by simp [hz])) h1
    refine ⟨y :: ys, ρ2, ?_, .cons py p2, h2⟩
    rw [List.map_cons, compD_cons, e]
    show (compD g t m vs (xs.map enc) ρ1).map _ = _
    rw [e2]
    rfl
theorem Paired.map_eq {α β : Type} {f : β → α} : ∀ {xs : List α} {ys : List β}, Paired (fun x y => f y = x) xs ys → ys.map f = xs
  | _, _, .nil => rfl
  | _, _, .cons h t => by rw [List.map_cons, h, Paired.map_eq t]
/-- dict comprehensions -/
def stepDc (g : GM) (t : TM) (mk mv : VM) (vs : List Nat) (d : PyData) (ρ : Rho) : Option (Option (NestedKey × PyData) × Rho) := (g d ρ).bind fun ρ1 => (t ρ1).bind fun p => if p.1 = true then (mk p.2).bind fun q => (mv q.2).bind fun r => (keyD q.1).bind fun k => (wipeO r.2 vs).map fun ρ2 => (some (k, r.1), ρ2) else (wipeO p.2 vs).map fun ρ2 => (none, ρ2)
def putO (acc : Kvs) : Option (NestedKey × PyData) → Kvs
  | some p => kPut acc p.1 p.2
  | none => acc
theorem compK_cons {g : GM} {t : TM} {mk mv : VM} {vs : List Nat} {d : PyData} {ds : List PyData} {acc : Kvs} {ρ : Rho} (hl : acc.length < sizeLine) : compDct g t mk mv vs (d :: ds) acc ρ = (stepDc g t mk mv vs d ρ).bind fun r => compDct g t mk mv vs ds (putO acc r.1) r.2 := by
  show (g d ρ).bind _ = _
  unfold stepDc
  cases g d ρ with
  | none => rfl
  | some ρ1 =>
    show (t ρ1).bind _ = Option.bind ((t ρ1).bind _) _
    cases t ρ1 with
    | none => rfl
    | some p =>
      obtain ⟨b, ρ2⟩ := p
      cases b with
      | false =>
        show (wipeO ρ2 vs).bind _ = Option.bind ((wipeO ρ2 vs).map _) _
        cases wipeO ρ2 vs <;> rfl
      | true =>
        show (mk ρ2).bind _ = Option.bind ((mk ρ2).bind _) _
        cases mk ρ2 with
        | none => rfl
        | some q =>
          show (mv q.2).bind _ = Option.bind ((mv q.2).bind _) _
          cases mv q.2 with
          | none => rfl
          | some r =>
            show (keyD q.1).bind _ = Option.bind ((keyD q.1).bind _) _
            cases keyD q.1 with
            | none => rfl
            | some k =>
              have h := kPut_length acc k r.1
              show (if (kPut acc k r.1).length ≤ sizeLine then _ else none) = Option.bind ((wipeO r.2 vs).map _) _
              rw [if_pos (by omega)]
              cases wipeO r.2 vs <;> rfl
theorem compK_fm {α : Type} {g : GM} {t : TM} {mk mv : VM} {vs : List Nat} {ρ : Rho} {enc : α → PyData} (f : α → Option (NestedKey × PyData)) : ∀ {xs : List α} {acc : Kvs}, acc.length + xs.length ≤ sizeLine → (∀ x ∈ xs, stepDc g t mk mv vs (enc x) ρ = some (f x, ρ)) →
    compDct g t mk mv vs (xs.map enc) acc ρ = some ((xs.map f).foldl putO acc, ρ)
  | [], acc, _, _ => rfl
  | x :: xs, acc, hl, H => by
    have hl : acc.length + (xs.length + 1) ≤ sizeLine := hl
    rw [List.map_cons, compK_cons (by omega), H x (by simp), List.map_cons, List.foldl_cons]
    show compDct g t mk mv vs (xs.map enc) (putO acc (f x)) ρ = _
    refine compK_fm f ?_ fun y hy => H y (by simp [hy])
    have : (putO acc (f x)).length ≤ acc.length + 1 := by
      cases f x with
      | none => exact Nat.le_succ _
      | some p => exact kPut_length _ _ _
    omega
end Vx
/-! Vl: the tags of pieces compared. Printed by lits.py. -/
namespace Vx
open PySem PySem.Spec L2
@[simp] theorem lo_head : PyData.strOk "head" = true := by decide +kernel
@[simp] theorem le_head_head : gEq (.str "head") (.str "head") = some (.bool true) := by kernel_rfl
@[simp] theorem lx_head_head : gNe (.str "head") (.str "head") = some (.bool false) := by kernel_rfl
@[simp] theorem ln_head_times : ("head" : Str) = "times" ↔ False := iff_false_intro (by decide +kernel)
@[simp] theorem le_head_times : gEq (.str "head") (.str "times") = some (.bool false) := by kernel_rfl
@[simp] theorem lx_head_times : gNe (.str "head") (.str "times") = some (.bool true) := by kernel_rfl
@[simp] theorem ln_head_value : ("head" : Str) = "value" ↔ False := iff_false_intro (by decide +kernel)
@[simp] theorem le_head_value : gEq (.str "head") (.str "value") = some (.bool false) := by kernel_rfl
@[simp] theorem lx_head_value : gNe (.str "head") (.str "value") = some (.bool true) := by kernel_rfl
@[simp] theorem ln_head_wrote : ("head" : Str) = "wrote" ↔ False := iff_false_intro (by decide +kernel)
@[simp] theorem le_head_wrote : gEq (.str "head") (.str "wrote") = some (.bool false) := by kernel_rfl
@[simp] theorem lx_head_wrote : gNe (.str "head") (.str "wrote") = some (.bool true) := by kernel_rfl
@[simp] theorem ln_head_among : ("head" : Str) = "among" ↔ False := iff_false_intro (by decide +kernel)
@[simp] theorem le_head_among : gEq (.str "head") (.str "among") = some (.bool false) := by kernel_rfl
@[simp] theorem lx_head_among : gNe (.str "head") (.str "among") = some (.bool true) := by kernel_rfl
@[simp] theorem ln_head_many : ("head" : Str) = "many" ↔ False := iff_false_intro (by decide +kernel)
@[simp] theorem le_head_many : gEq (.str "head") (.str "many") = some (.bool false) := by kernel_rfl
@[simp] theorem lx_head_many : gNe (.str "head") (.str "many") = some (.bool true) := by kernel_rfl
@[simp] theorem ln_head_did : ("head" : Str) = "did" ↔ False := iff_false_intro (by decide +kernel)
@[simp] theorem le_head_did : gEq (.str "head") (.str "did") = some (.bool false) := by kernel_rfl
@[simp] theorem lx_head_did : gNe (.str "head") (.str "did") = some (.bool true) := by kernel_rfl
@[simp] theorem li_head_wa : gIn (.str "head") (.tuple [.str "wrote", .str "among"]) = some (.bool false) := by kernel_rfl
@[simp] theorem lm_head_wa : gNotIn (.str "head") (.tuple [.str "wrote", .str "among"]) = some (.bool true) := by kernel_rfl
@[simp] theorem li_head_vh : gIn (.str "head") (.tuple [.str "value", .str "head"]) = some (.bool true) := by kernel_rfl
@[simp] theorem lm_head_vh : gNotIn (.str "head") (.tuple [.str "value", .str "head"]) = some (.bool false) := by kernel_rfl
@[simp] theorem li_head_vht : gIn (.str "head") (.tuple [.str "value", .str "head", .str "times"]) = some (.bool true) := by kernel_rfl
@[simp] theorem lm_head_vht : gNotIn (.str "head") (.tuple [.str "value", .str "head", .str "times"]) = some (.bool false) := by kernel_rfl
@[simp] theorem li_head_wmad : gIn (.str "head") (.tuple [.str "wrote", .str "many", .str "among", .str "did"]) = some (.bool false) := by kernel_rfl
@[simp] theorem lm_head_wmad : gNotIn (.str "head") (.tuple [.str "wrote", .str "many", .str "among", .str "did"]) = some (.bool true) := by kernel_rfl
@[simp] theorem li_head_md : gIn (.str "head") (.tuple [.str "many", .str "did"]) = some (.bool false) := by kernel_rfl
@[simp] theorem lm_head_md : gNotIn (.str "head") (.tuple [.str "many", .str "did"]) = some (.bool true) := by kernel_rfl
@[simp] theorem lo_times : PyData.strOk "times" = true := by decide +kernel
@[simp] theorem ln_times_head : ("times" : Str) = "head" ↔ False := iff_false_intro (by decide +kernel)
@[simp] theorem le_times_head : gEq (.str "times") (.str "head") = some (.bool false) := by kernel_rfl
@[simp] theorem lx_times_head : gNe (.str "times") (.str "head") = some (.bool true) := by kernel_rfl
@[simp] theorem le_times_times : gEq (.str "times") (.str "times") = some (.bool true) := by kernel_rfl
@[simp] theorem lx_times_times : gNe (.str "times") (.str "times") = some (.bool false) := by kernel_rfl
@[simp] theorem ln_times_value : ("times" : Str) = "value" ↔ False := iff_false_intro (by decide +kernel)
@[simp] theorem le_times_value : gEq (.str "times") (.str "value") = some (.bool false) := by kernel_rfl
@[simp] theorem lx_times_value : gNe (.str "times") (.str "value") = some (.bool true) := by kernel_rfl
@[simp] theorem ln_times_wrote : ("times" : Str) = "wrote" ↔ False := iff_false_intro (by decide +kernel)
@[simp] theorem le_times_wrote : gEq (.str "times") (.str "wrote") = some (.bool false) := by kernel_rfl
@[simp] theorem lx_times_wrote : gNe (.str "times") (.str "wrote") = some (.bool true) := by kernel_rfl
@[simp] theorem ln_times_among : ("times" : Str) = "among" ↔ False := iff_false_intro (by decide +kernel)
@[simp] theorem le_times_among : gEq (.str "times") (.str "among") = some (.bool false) := by kernel_rfl
@[simp] theorem lx_times_among : gNe (.str "times") (.str "among") = some (.bool true) := by kernel_rfl
@[simp] theorem ln_times_many : ("times" : Str) = "many" ↔ False := iff_false_intro (by decide +kernel)
@[simp] theorem le_times_many : gEq (.str "times") (.str "many") = some (.bool false) := by kernel_rfl
@[simp] theorem lx_times_many : gNe (.str "times") (.str "many") = some (.bool true) := by kernel_rfl
@[simp] theorem ln_times_did : ("times" : Str) = "did" ↔ False := iff_false_intro (by decide +kernel)
@[simp] theorem le_times_did : gEq (.str "times") (.str "did") = some (.bool false) := by kernel_rfl
@[simp] theorem lx_times_did : gNe (.str "times") (.str "did") = some (.bool true) := by kernel_rfl
@[simp] theorem li_times_wa : gIn (.str "times") (.tuple [.str "wrote", .str "among"]) = some (.bool false) := by kernel_rfl
@[simp] theorem lm_times_wa : gNotIn (.str "times") (.tuple [.str "wrote", .str "among"]) = some (.bool true) := by kernel_rfl
@[simp] theorem li_times_vh : gIn (.str "times") (.tuple [.str "value", .str "head"]) = some (.bool false) := by kernel_rfl
@[simp] theorem lm_times_vh : gNotIn (.str "times") (.tuple [.str "value", .str "head"]) = some (.bool true) := by kernel_rfl
@[simp] theorem li_times_vht : gIn (.str "times") (.tuple [.str "value", .str "head", .str "times"]) = some (.bool true) := by kernel_rfl
@[simp] theorem lm_times_vht : gNotIn (.str "times") (.tuple [.str "value", .str "head", .str "times"]) = some (.bool false) := by kernel_rfl
@[simp] theorem li_times_wmad : gIn (.str "times") (.tuple [.str "wrote", .str "many", .str "among", .str "did"]) = some (.bool false) := by kernel_rfl
@[simp] theorem lm_times_wmad : gNotIn (.str "times") (.tuple [.str "wrote", .str "many", .str "among", .str "did"]) = some (.bool true) := by kernel_rfl
@[simp] theorem li_times_md : gIn (.str "times") (.tuple [.str "many", .str "did"]) = some (.bool false) := by kernel_rfl
@[simp] theorem lm_times_md : gNotIn (.str "times") (.tuple [.str "many", .str "did"]) = some (.bool true) := by kernel_rfl
@[simp] theorem lo_value : PyData.strOk "value" = true := by decide +kernel
@[simp] theorem ln_value_head : ("value" : Str) = "head" ↔ False := iff_false_intro (by decide +kernel)
@[simp] theorem le_value_head : gEq (.str "value") (.str "head") = some (.bool false) := by kernel_rfl
@[simp] theorem lx_value_head : gNe (.str "value") (.str "head") = some (.bool true) := by kernel_rfl
@[simp] theorem ln_value_times : ("value" : Str) = "times" ↔ False := iff_false_intro (by decide +kernel)
@[simp] theorem le_value_times : gEq (.str "value") (.str "times") = some (.bool false) := by kernel_rfl
@[simp] theorem lx_value_times : gNe (.str "value") (.str "times") = some (.bool true) := by kernel_rfl
@[simp] theorem le_value_value : gEq (.str "value") (.str "value") = some (.bool true) := by kernel_rfl
@[simp] theorem lx_value_value : gNe (.str "value") (.str "value") = some (.bool false) := by kernel_rfl
@[simp] theorem ln_value_wrote : ("value" : Str) = "wrote" ↔ False := iff_false_intro (by decide +kernel)
@[simp] theorem le_value_wrote : gEq (.str "value") (.str "wrote") = some (.bool false) := by kernel_rfl
@[simp] theorem lx_value_wrote : gNe (.str "value") (.str "wrote") = some (.bool true) := by kernel_rfl
@[simp] theorem ln_value_among : ("value" : Str) = "among" ↔ False := iff_false_intro (by decide +kernel)
@[simp] theorem le_value_among : gEq (.str "value") (.str "among") = some (.bool false) := by kernel_rfl
@[simp] theorem lx_value_among : gNe (.str "value") (.str "among") = some (.bool true) := by kernel_rfl
@[simp] theorem ln_value_many : ("value" : Str) = "many" ↔ False := iff_false_intro (by decide +kernel)
@[simp] theorem le_value_many : gEq (.str "value") (.str "many") = some (.bool false) := by kernel_rfl
@[simp] theorem lx_value_many : gNe (.str "value") (.str "many") = some (.bool true) := by kernel_rfl
@[simp] theorem ln_value_did : ("value" : Str) = "did" ↔ False := iff_false_intro (by decide +kernel)
@[simp] theorem le_value_did : gEq (.str "value") (.str "did") = some (.bool false) := by kernel_rfl
@[simp] theorem lx_value_did : gNe (.str "value") (.str "did") = some (.bool true) := by kernel_rfl
@[simp] theorem li_value_wa : gIn (.str "value") (.tuple [.str "wrote", .str "among"]) = some (.bool false) := by kernel_rfl
@[simp] theorem lm_value_wa : gNotIn (.str "value") (.tuple [.str "wrote", .str "among"]) = some (.bool true) := by kernel_rfl
@[simp] theorem li_value_vh : gIn (.str "value") (.tuple [.str "value", .str "head"]) = some (.bool true) := by kernel_rfl
@[simp] theorem lm_value_vh : gNotIn (.str "value") (.tuple [.str "value", .str "head"]) = some (.bool false) := by kernel_rfl
@[simp] theorem li_value_vht : gIn (.str "value") (.tuple [.str "value", .str "head", .str "times"]) = some (.bool true) := by kernel_rfl
@[simp] theorem lm_value_vht : gNotIn (.str "value") (.tuple [.str "value", .str "head", .str "times"]) = some (.bool false) := by kernel_rfl
@[simp] theorem li_value_wmad : gIn (.str "value") (.tuple [.str "wrote", .str "many", .str "among", .str "did"]) = some (.bool false) := by kernel_rfl
@[simp] theorem lm_value_wmad : gNotIn (.str "value") (.tuple [.str "wrote", .str "many", .str "among", .str "did"]) = some (.bool true) := by kernel_rfl
@[simp] theorem li_value_md : gIn (.str "value") (.tuple [.str "many", .str "did"]) = some (.bool false) := by kernel_rfl
@[simp] theorem lm_value_md : gNotIn (.str "value") (.tuple [.str "many", .str "did"]) = some (.bool true) := by kernel_rfl
@[simp] theorem lo_wrote : PyData.strOk "wrote" = true := by decide +kernel
@[simp] theorem ln_wrote_head : ("wrote" : Str) = "head" ↔ False := iff_false_intro (by decide +kernel)
@[simp] theorem le_wrote_head : gEq (.str "wrote") (.str "head") = some (.bool false) := by kernel_rfl
@[simp] theorem lx_wrote_head : gNe (.str "wrote") (.str "head") = some (.bool true) := by kernel_rfl
@[simp] theorem ln_wrote_times : ("wrote" : Str) = "times" ↔ False := iff_false_intro (by decide +kernel)
@[simp] theorem le_wrote_times : gEq (.str "wrote") (.str "times") = some (.bool false) := by kernel_rfl
@[simp] theorem lx_wrote_times : gNe (.str "wrote") (.str "times") = some (.bool true) := by kernel_rfl
@[simp] theorem ln_wrote_value : ("wrote" : Str) = "value" ↔ False := iff_false_intro (by decide +kernel)
@[simp] theorem le_wrote_value : gEq (.str "wrote") (.str "value") = some (.bool false) := by kernel_rfl
@[simp] theorem lx_wrote_value : gNe (.str "wrote") (.str "value") = some (.bool true) := by kernel_rfl
@[simp] theorem le_wrote_wrote : gEq (.str "wrote") (.str "wrote") = some (.bool true) := by kernel_rfl
@[simp] theorem lx_wrote_wrote : gNe (.str "wrote") (.str "wrote") = some (.bool false) := by kernel_rfl
@[simp] theorem ln_wrote_among : ("wrote" : Str) = "among" ↔ False := iff_false_intro (by decide +kernel)
@[simp] theorem le_wrote_among : gEq (.str "wrote") (.str "among") = some (.bool false) := by kernel_rfl
@[simp] theorem lx_wrote_among : gNe (.str "wrote") (.str "among") = some (.bool true) := by kernel_rfl
@[simp] theorem ln_wrote_many : ("wrote" : Str) = "many" ↔ False := iff_false_intro (by decide +kernel)
@[simp] theorem le_wrote_many : gEq (.str "wrote") (.str "many") = some (.bool false) := by kernel_rfl
@[simp] theorem lx_wrote_many : gNe (.str "wrote") (.str "many") = some (.bool true) := by kernel_rfl
@[simp] theorem ln_wrote_did : ("wrote" : Str) = "did" ↔ False := iff_false_intro (by decide +kernel)
@[simp] theorem le_wrote_did : gEq (.str "wrote") (.str "did") = some (.bool false) := by kernel_rfl
@[simp] theorem lx_wrote_did : gNe (.str "wrote") (.str "did") = some (.bool true) := by kernel_rfl
@[simp] theorem li_wrote_wa : gIn (.str "wrote") (.tuple [.str "wrote", .str "among"]) = some (.bool true) := by kernel_rfl
@[simp] theorem lm_wrote_wa : gNotIn (.str "wrote") (.tuple [.str "wrote", .str "among"]) = some (.bool false) := by kernel_rfl
@[simp] theorem li_wrote_vh : gIn (.str "wrote") (.tuple [.str "value", .str "head"]) = some (.bool false) := by kernel_rfl
@[simp] theorem lm_wrote_vh : gNotIn (.str "wrote") (.tuple [.str "value", .str "head"]) = some (.bool true) := by kernel_rfl
@[simp] theorem li_wrote_vht : gIn (.str "wrote") (.tuple [.str "value", .str "head", .str "times"]) = some (.bool false) := by kernel_rfl
@[simp] theorem lm_wrote_vht : gNotIn (.str "wrote") (.tuple [.str "value", .str "head", .str "times"]) = some (.bool true) := by kernel_rfl
@[simp] theorem li_wrote_wmad : gIn (.str "wrote") (.tuple [.str "wrote", .str "many", .str "among", .str "did"]) = some (.bool true) := by kernel_rfl
@[simp] theorem lm_wrote_wmad : gNotIn (.str "wrote") (.tuple [.str "wrote", .str "many", .str "among", .str "did"]) = some (.bool false) := by kernel_rfl
@[simp] theorem li_wrote_md : gIn (.str "wrote") (.tuple [.str "many", .str "did"]) = some (.bool false) := by kernel_rfl
@[simp] theorem lm_wrote_md : gNotIn (.str "wrote") (.tuple [.str "many", .str "did"]) = some (.bool true) := by kernel_rfl
@[simp] theorem lo_among : PyData.strOk "among" = true := by decide +kernel
@[simp] theorem ln_among_head : ("among" : Str) = "head" ↔ False := iff_false_intro (by decide +kernel)
@[simp] theorem le_among_head : gEq (.str "among") (.str "head") = some (.bool false) := by kernel_rfl
@[simp] theorem lx_among_head : gNe (.str "among") (.str "head") = some (.bool true) := by kernel_rfl
@[simp] theorem ln_among_times : ("among" : Str) = "times" ↔ False := iff_false_intro (by decide +kernel)
@[simp] theorem le_among_times : gEq (.str "among") (.str "times") = some (.bool false) := by kernel_rfl
@[simp] theorem lx_among_times : gNe (.str "among") (.str "times") = some (.bool true) := by kernel_rfl
@[simp] theorem ln_among_value : ("among" : Str) = "value" ↔ False := iff_false_intro (by decide +kernel)
@[simp] theorem le_among_value : gEq (.str "among") (.str "value") = some (.bool false) := by kernel_rfl
@[simp] theorem lx_among_value : gNe (.str "among") (.str "value") = some (.bool true) := by kernel_rfl
@[simp] theorem ln_among_wrote : ("among" : Str) = "wrote" ↔ False := iff_false_intro (by decide +kernel)
@[simp] theorem le_among_wrote : gEq (.str "among") (.str "wrote") = some (.bool false) := by kernel_rfl
@[simp] theorem lx_among_wrote : gNe (.str "among") (.str "wrote") = some (.bool true) := by kernel_rfl
@[simp] theorem le_among_among : gEq (.str "among") (.str "among") = some (.bool true) := by kernel_rfl
@[simp] theorem lx_among_among : gNe (.str "among") (.str "among") = some (.bool false) := by kernel_rfl
@[simp] theorem ln_among_many : ("among" : Str) = "many" ↔ False := iff_false_intro (by decide +kernel)
@[simp] theorem le_among_many : gEq (.str "among") (.str "many") = some (.bool false) := by kernel_rfl
@[simp] theorem lx_among_many : gNe (.str "among") (.str "many") = some (.bool true) := by kernel_rfl
@[simp] theorem ln_among_did : ("among" : Str) = "did" ↔ False := iff_false_intro (by decide +kernel)
@[simp] theorem le_among_did : gEq (.str "among") (.str "did") = some (.bool false) := by kernel_rfl
@[simp] theorem lx_among_did : gNe (.str "among") (.str "did") = some (.bool true) := by kernel_rfl
@[simp] theorem li_among_wa : gIn (.str "among") (.tuple [.str "wrote", .str "among"]) = some (.bool true) := by kernel_rfl
@[simp] theorem lm_among_wa : gNotIn (.str "among") (.tuple [.str "wrote", .str "among"]) = some (.bool false) := by kernel_rfl
@[simp] theorem li_among_vh : gIn (.str "among") (.tuple [.str "value", .str "head"]) = some (.bool false) := by kernel_rfl
@[simp] theorem lm_among_vh : gNotIn (.str "among") (.tuple [.str "value", .str "head"]) = some (.bool true) := by kernel_rfl
@[simp] theorem li_among_vht : gIn (.str "among") (.tuple [.str "value", .str "head", .str "times"]) = some (.bool false) := by kernel_rfl
@[simp] theorem lm_among_vht : gNotIn (.str "among") (.tuple [.str "value", .str "head", .str "times"]) = some (.bool true) := by kernel_rfl
@[simp] theorem li_among_wmad : gIn (.str "among") (.tuple [.str "wrote", .str "many", .str "among", .str "did"]) = some (.bool true) := by kernel_rfl
@[simp] theorem lm_among_wmad : gNotIn (.str "among") (.tuple [.str "wrote", .str "many", .str "among", .str "did"]) = some (.bool false) := by kernel_rfl
@[simp] theorem li_among_md : gIn (.str "among") (.tuple [.str "many", .str "did"]) = some (.bool false) := by kernel_rfl
@[simp] theorem lm_among_md : gNotIn (.str "among") (.tuple [.str "many", .str "did"]) = some (.bool true) := by kernel_rfl
@[simp] theorem lo_many : PyData.strOk "many" = true := by decide +kernel
@[simp] theorem ln_many_head : ("many" : Str) = "head" ↔ False := iff_false_intro (by decide +kernel)
@[simp] theorem le_many_head : gEq (.str "many") (.str "head") = some (.bool false) := by kernel_rfl
@[simp] theorem lx_many_head : gNe (.str "many") (.str "head") = some (.bool true) := by kernel_rfl
@[simp] theorem ln_many_times : ("many" : Str) = "times" ↔ False := iff_false_intro (by decide +kernel)
@[simp] theorem le_many_times : gEq (.str "many") (.str "times") = some (.bool false) := by kernel_rfl
@[simp] theorem lx_many_times : gNe (.str "many") (.str "times") = some (.bool true) := by kernel_rfl
@[simp] theorem ln_many_value : ("many" : Str) = "value" ↔ False := iff_false_intro (by decide +kernel)
@[simp] theorem le_many_value : gEq (.str "many") (.str "value") = some (.bool false) := by kernel_rfl
@[simp] theorem lx_many_value : gNe (.str "many") (.str "value") = some (.bool true) := by kernel_rfl
@[simp] theorem ln_many_wrote : ("many" : Str) = "wrote" ↔ False := iff_false_intro (by decide +kernel)
@[simp] theorem le_many_wrote : gEq (.str "many") (.str "wrote") = some (.bool false) := by kernel_rfl
@[simp] theorem lx_many_wrote : gNe (.str "many") (.str "wrote") = some (.bool true) := by kernel_rfl
@[simp] theorem ln_many_among : ("many" : Str) = "among" ↔ False := iff_false_intro (by decide +kernel)
@[simp] theorem le_many_among : gEq (.str "many") (.str "among") = some (.bool false) := by kernel_rfl
@[simp] theorem lx_many_among : gNe (.str "many") (.str "among") = some (.bool true) := by kernel_rfl
@[simp] theorem le_many_many : gEq (.str "many") (.str "many") = some (.bool true) := by kernel_rfl
@[simp] theorem lx_many_many : gNe (.str "many") (.str "many") = some (.bool false) := by kernel_rfl
@[simp] theorem ln_many_did : ("many" : Str) = "did" ↔ False := iff_false_intro (by decide +kernel)
@[simp] theorem le_many_did : gEq (.str "many") (.str "did") = some (.bool false) := by kernel_rfl
@[simp] theorem lx_many_did : gNe (.str "many") (.str "did") = some (.bool true) := by kernel_rfl
@[simp] theorem li_many_wa : gIn (.str "many") (.tuple [.str "wrote", .str "among"]) = some (.bool false) := by kernel_rfl
@[simp] theorem lm_many_wa : gNotIn (.str "many") (.tuple [.str "wrote", .str "among"]) = some (.bool true) := by kernel_rfl
@[simp] theorem li_many_vh : gIn (.str "many") (.tuple [.str "value", .str "head"]) = some (.bool false) := by kernel_rfl
@[simp] theorem lm_many_vh : gNotIn (.str "many") (.tuple [.str "value", .str "head"]) = some (.bool true) := by kernel_rfl
@[simp] theorem li_many_vht : gIn (.str "many") (.tuple [.str "value", .str "head", .str "times"]) = some (.bool false) := by kernel_rfl
@[simp] theorem lm_many_vht : gNotIn (.str "many") (.tuple [.str "value", .str "head", .str "times"]) = some (.bool true) := by kernel_rfl
@[simp] theorem li_many_wmad : gIn (.str "many") (.tuple [.str "wrote", .str "many", .str "among", .str "did"]) = some (.bool true) := by kernel_rfl
@[simp] theorem lm_many_wmad : gNotIn (.str "many") (.tuple [.str "wrote", .str "many", .str "among", .str "did"]) = some (.bool false) := by kernel_rfl
@[simp] theorem li_many_md : gIn (.str "many") (.tuple [.str "many", .str "did"]) = some (.bool true) := by kernel_rfl
@[simp] theorem lm_many_md : gNotIn (.str "many") (.tuple [.str "many", .str "did"]) = some (.bool false) := by kernel_rfl
@[simp] theorem lo_did : PyData.strOk "did" = true := by decide +kernel
@[simp] theorem ln_did_head : ("did" : Str) = "head" ↔ False := iff_false_intro (by decide +kernel)
@[simp] theorem le_did_head : gEq (.str "did") (.str "head") = some (.bool false) := by kernel_rfl
@[simp] theorem lx_did_head : gNe (.str "did") (.str "head") = some (.bool true) := by kernel_rfl
@[simp] theorem ln_did_times : ("did" : Str) = "times" ↔ False := iff_false_intro (by decide +kernel)
@[simp] theorem le_did_times : gEq (.str "did") (.str "times") = some (.bool false) := by kernel_rfl
@[simp] theorem lx_did_times : gNe (.str "did") (.str "times") = some (.bool true) := by kernel_rfl
@[simp] theorem ln_did_value : ("did" : Str) = "value" ↔ False := iff_false_intro (by decide +kernel)
@[simp] theorem le_did_value : gEq (.str "did") (.str "value") = some (.bool false) := by kernel_rfl
@[simp] theorem lx_did_value : gNe (.str "did") (.str "value") = some (.bool true) := by kernel_rfl
@[simp] theorem ln_did_wrote : ("did" : Str) = "wrote" ↔ False := iff_false_intro (by decide +kernel)
@[simp] theorem le_did_wrote : gEq (.str "did") (.str "wrote") = some (.bool false) := by kernel_rfl
@[simp] theorem lx_did_wrote : gNe (.str "did") (.str "wrote") = some (.bool true) := by kernel_rfl
@[simp] theorem ln_did_among : ("did" : Str) = "among" ↔ False := iff_false_intro (by decide +kernel)
@[simp] theorem le_did_among : gEq (.str "did") (.str "among") = some (.bool false) := by kernel_rfl
@[simp] theorem lx_did_among : gNe (.str "did") (.str "among") = some (.bool true) := by kernel_rfl
@[simp] theorem ln_did_many : ("did" : Str) = "many" ↔ False := iff_false_intro (by decide +kernel)
@[simp] theorem le_did_many : gEq (.str "did") (.str "many") = some (.bool false) := by kernel_rfl
@[simp] theorem lx_did_many : gNe (.str "did") (.str "many") = some (.bool true) := by kernel_rfl
@[simp] theorem le_did_did : gEq (.str "did") (.str "did") = some (.bool true) := by kernel_rfl
@[simp] theorem lx_did_did : gNe (.str "did") (.str "did") = some (.bool false) := by kernel_rfl
@[simp] theorem li_did_wa : gIn (.str "did") (.tuple [.str "wrote", .str "among"]) = some (.bool false) := by kernel_rfl
@[simp] theorem lm_did_wa : gNotIn (.str "did") (.tuple [.str "wrote", .str "among"]) = some (.bool true) := by kernel_rfl
@[simp] theorem li_did_vh : gIn (.str "did") (.tuple [.str "value", .str "head"]) = some (.bool false) := by kernel_rfl
@[simp] theorem lm_did_vh : gNotIn (.str "did") (.tuple [.str "value", .str "head"]) = some (.bool true) := by kernel_rfl
@[simp] theorem li_did_vht : gIn (.str "did") (.tuple [.str "value", .str "head", .str "times"]) = some (.bool false) := by kernel_rfl
@[simp] theorem lm_did_vht : gNotIn (.str "did") (.tuple [.str "value", .str "head", .str "times"]) = some (.bool true) := by kernel_rfl
@[simp] theorem li_did_wmad : gIn (.str "did") (.tuple [.str "wrote", .str "many", .str "among", .str "did"]) = some (.bool true) := by kernel_rfl
@[simp] theorem lm_did_wmad : gNotIn (.str "did") (.tuple [.str "wrote", .str "many", .str "among", .str "did"]) = some (.bool false) := by kernel_rfl
@[simp] theorem li_did_md : gIn (.str "did") (.tuple [.str "many", .str "did"]) = some (.bool true) := by kernel_rfl
@[simp] theorem lm_did_md : gNotIn (.str "did") (.tuple [.str "many", .str "did"]) = some (.bool false) := by kernel_rfl
@[simp] theorem a_dIsi {c : String} {m : EM} {ρ : Rho} : dIsi c m ρ = (m ρ).bind fun p => (rd p.2 p.1).bind fun d => (tyNm d).bind fun n => (kitB n c).map fun b => (.dat (.bool b), p.2) := rfl
@[simp] theorem a_dIsi2 {c1 c2 : String} {m : EM} {ρ : Rho} : dIsi2 c1 c2 m ρ = (m ρ).bind fun p => (rd p.2 p.1).bind fun d => (tyNm d).bind fun n => (isAny n [c1, c2]).map fun b => (.dat (.bool b), p.2) := rfl
@[simp] theorem a_sSetI {i : Nat} {kx : EM} {m : VM} {ρ : Rho} : sSetI i kx m ρ = (m ρ).bind fun p => (lstAt p.2 i).bind fun _ => (kx p.2).bind fun q => match rd q.2 q.1 with
  | some (.int k) => (lstAt q.2 i).bind fun ds => (ixN ds.length k).map fun j => (.nx, updL q.2 i (ds.set j p.1))
  | _ => none := rfl
@[simp] theorem ty_int (i : Int) : tyNm (.int i) = some "int" := rfl
@[simp] theorem ty_bool (i : Bool) : tyNm (.bool i) = some "bool" := rfl
@[simp] theorem ty_str (i : Str) : tyNm (.str i) = some "str" := rfl
@[simp] theorem ty_none : tyNm .none = some "NoneType" := rfl
@[simp] theorem ty_list (i : List PyData) : tyNm (.list i) = some "list" := rfl
@[simp] theorem ty_tuple (i : List PyData) : tyNm (.tuple i) = some "tuple" := rfl
@[simp] theorem kb_NoneType_bool : kitB "NoneType" "bool" = some false := by kernel_rfl
@[simp] theorem kb_NoneType_int : kitB "NoneType" "int" = some false := by kernel_rfl
@[simp] theorem kb_NoneType_str : kitB "NoneType" "str" = some false := by kernel_rfl
@[simp] theorem kb_NoneType_list : kitB "NoneType" "list" = some false := by kernel_rfl
@[simp] theorem kb_NoneType_tuple : kitB "NoneType" "tuple" = some false := by kernel_rfl
@[simp] theorem ka_NoneType : isAny "NoneType" ["list", "tuple"] = some false := by kernel_rfl
@[simp] theorem kb_bool_bool : kitB "bool" "bool" = some true := by kernel_rfl
@[simp] theorem kb_bool_int : kitB "bool" "int" = some true := by kernel_rfl
@[simp] theorem kb_bool_str : kitB "bool" "str" = some false := by kernel_rfl
@[simp] theorem kb_bool_list : kitB "bool" "list" = some false := by kernel_rfl
@[simp] theorem kb_bool_tuple : kitB "bool" "tuple" = some false := by kernel_rfl
@[simp] theorem ka_bool : isAny "bool" ["list", "tuple"] = some false := by kernel_rfl
@[simp] theorem kb_int_bool : kitB "int" "bool" = some false := by kernel_rfl
@[simp] theorem kb_int_int : kitB "int" "int" = some true := by kernel_rfl
@[simp] theorem kb_int_str : kitB "int" "str" = some false := by kernel_rfl
@[simp] theorem kb_int_list : kitB "int" "list" = some false := by kernel_rfl
@[simp] theorem kb_int_tuple : kitB "int" "tuple" = some false := by kernel_rfl
@[simp] theorem ka_int : isAny "int" ["list", "tuple"] = some false := by kernel_rfl
@[simp] theorem kb_str_bool : kitB "str" "bool" = some false := by kernel_rfl
@[simp] theorem kb_str_int : kitB "str" "int" = some false := by kernel_rfl
@[simp] theorem kb_str_str : kitB "str" "str" = some true := by kernel_rfl
@[simp] theorem kb_str_list : kitB "str" "list" = some false := by kernel_rfl
@[simp] theorem kb_str_tuple : kitB "str" "tuple" = some false := by kernel_rfl
@[simp] theorem ka_str : isAny "str" ["list", "tuple"] = some false := by kernel_rfl
@[simp] theorem kb_list_bool : kitB "list" "bool" = some false := by kernel_rfl
@[simp] theorem kb_list_int : kitB "list" "int" = some false := by kernel_rfl
@[simp] theorem kb_list_str : kitB "list" "str" = some false := by kernel_rfl
@[simp] theorem kb_list_list : kitB "list" "list" = some true := by kernel_rfl
@[simp] theorem kb_list_tuple : kitB "list" "tuple" = some false := by kernel_rfl
@[simp] theorem ka_list : isAny "list" ["list", "tuple"] = some true := by kernel_rfl
@[simp] theorem kb_tuple_bool : kitB "tuple" "bool" = some false := by kernel_rfl
@[simp] theorem kb_tuple_int : kitB "tuple" "int" = some false := by kernel_rfl
@[simp] theorem kb_tuple_str : kitB "tuple" "str" = some false := by kernel_rfl
@[simp] theorem kb_tuple_list : kitB "tuple" "list" = some false := by kernel_rfl
@[simp] theorem kb_tuple_tuple : kitB "tuple" "tuple" = some true := by kernel_rfl
@[simp] theorem ka_tuple : isAny "tuple" ["list", "tuple"] = some true := by kernel_rfl
end Vx
/-! Vt: keys, pieces, histories as data; what needs no program in sight. -/
namespace Vx
open PySem PySem.Spec L2

structure Ky where
  s : Str
  ok : PyData.strOk s = true
deriving DecidableEq
abbrev kd (k : Ky) : PyData := .str k.s
abbrev kds (ks : List Ky) : PyData := .tuple (ks.map kd)
inductive Piece where
  | head (v : Int)
  | times (k : Ky) (v n : Int)
  | value (k : Ky) (i v : Int)
  | wrote (v : Int) (ks : List Ky)
  | among (v : Int) (ks : List Ky)
  | many (v n : Int)
  | did (v : Int) (k : Ky)
deriving DecidableEq
def Piece.enc : Piece → PyData
  | .head v => .tuple [.str "head", .int v]
  | .times k v n => .tuple [.str "times", kd k, .int v, .int n]
  | .value k i v => .tuple [.str "value", kd k, .int i, .int v]
  | .wrote v ks => .tuple [.str "wrote", .int v, kds ks]
  | .among v ks => .tuple [.str "among", .int v, kds ks]
  | .many v n => .tuple [.str "many", .int v, .int n]
  | .did v k => .tuple [.str "did", .int v, kd k]
def Piece.ver : Piece → Int
  | .head v => v
  | .times _ v _ => v
  | .value _ _ _ => 0
  | .wrote v _ => v
  | .among v _ => v
  | .many v _ => v
  | .did v _ => v
theorem kd_inj {a b : Ky} : kd a = kd b ↔ a = b := by
  constructor
  · intro h
    cases a; cases b
    cases h
    rfl
  · rintro rfl; rfl
theorem map_inj {α : Type} {f : α → PyData} (h : ∀ a b, f a = f b → a = b) : ∀ {xs ys : List α}, xs.map f = ys.map f ↔ xs = ys
  | [], [] => by simp
  | [], _ :: _ => by simp
  | _ :: _, [] => by simp
  | x :: xs, y :: ys => by
    simp only [List.map_cons, List.cons.injEq]
    rw [map_inj h (xs := xs) (ys := ys)]
    exact ⟨fun ⟨a, b⟩ => ⟨h _ _ a, b⟩, fun ⟨a, b⟩ => ⟨by rw [a], b⟩⟩
theorem kds_inj {a b : List Ky} : kds a = kds b ↔ a = b := by
  show PyData.tuple _ = PyData.tuple _ ↔ _
  rw [PyData.tuple.injEq]
  exact map_inj fun _ _ h => kd_inj.mp h
theorem mem_map_inj {α : Type} {f : α → PyData} (h : ∀ a b, f a = f b → a = b) {x : α} {xs : List α} : f x ∈ xs.map f ↔ x ∈ xs := by
  rw [List.mem_map]
  exact ⟨fun ⟨y, hy, e⟩ => h _ _ e ▸ hy, fun hx => ⟨x, hx, rfl⟩⟩
theorem pl_kd (k : Ky) : plain 0 (kd k) = true := k.ok
theorem pl_kds (ks : List Ky) : plain 1 (kds ks) = true := by
  show (ks.map kd).all (plain 0) = true
  rw [List.all_eq_true]
  intro x hx
  obtain ⟨k, _, rfl⟩ := List.mem_map.mp hx
  exact pl_kd k
theorem pl_enc (p : Piece) : plain 2 p.enc = true := by
  have k1 : ∀ k : Ky, PyData.strOk k.s = true := fun k => k.ok
  cases p <;> simp [Piece.enc, plain, k1]
theorem enc_inj : ∀ (p q : Piece), p.enc = q.enc → p = q := by
  have km : ∀ a b : List Ky, a.map kd = b.map kd ↔ a = b := fun a b => map_inj fun _ _ h => kd_inj.mp h
  have ki : ∀ a b : Ky, a.s = b.s ↔ a = b := fun a b => ⟨fun h => kd_inj.mp (congrArg PyData.str h), fun h => h ▸ rfl⟩
  intro p q h
  cases p <;> cases q <;> simp [Piece.enc, km, ki] at h ⊢ <;> exact h

/-! ### comparisons -/
@[simp] theorem gEq_int (i j : Int) : gEq (.int i) (.int j) = some (.bool (decide (i = j))) := gEq_plain (n := 0) rfl rfl (by simp)
@[simp] theorem gNe_int (i j : Int) : gNe (.int i) (.int j) = some (.bool (!decide (i = j))) := gNe_plain (n := 0) rfl rfl (by simp)
@[simp] theorem gEq_bl (a b : Bool) : gEq (.bool a) (.bool b) = some (.bool (a == b)) := by cases a <;> cases b <;> kernel_rfl
@[simp] theorem gNe_bl (a b : Bool) : gNe (.bool a) (.bool b) = some (.bool (a != b)) := by cases a <;> cases b <;> kernel_rfl
@[simp] theorem gEq_kd (a b : Ky) : gEq (.str a.s) (.str b.s) = some (.bool (decide (a = b))) := gEq_plain (pl_kd a) (pl_kd b) kd_inj
@[simp] theorem gNe_kd (a b : Ky) : gNe (.str a.s) (.str b.s) = some (.bool (!decide (a = b))) := gNe_plain (pl_kd a) (pl_kd b) kd_inj
@[simp] theorem gEq_kds (a b : List Ky) : gEq (.tuple (a.map kd)) (.tuple (b.map kd)) = some (.bool (decide (a = b))) := gEq_plain (pl_kds a) (pl_kds b) kds_inj
@[simp] theorem gNe_kds (a b : List Ky) : gNe (.tuple (a.map kd)) (.tuple (b.map kd)) = some (.bool (!decide (a = b))) := gNe_plain (pl_kds a) (pl_kds b) kds_inj
theorem pl_map {ks : List Ky} : ∀ x ∈ ks.map kd, plain 0 x = true := fun x hx => by
  obtain ⟨k, _, rfl⟩ := List.mem_map.mp hx
  exact pl_kd k
@[simp] theorem gIn_kt (k : Ky) (ks : List Ky) : gIn (.str k.s) (.tuple (ks.map kd)) = some (.bool (decide (k ∈ ks))) := gIn_tuple (pl_kd k) pl_map (mem_map_inj fun _ _ h => kd_inj.mp h)
@[simp] theorem gIn_kl (k : Ky) (ks : List Ky) : gIn (.str k.s) (.list (ks.map kd)) = some (.bool (decide (k ∈ ks))) := gIn_list (pl_kd k) pl_map (mem_map_inj fun _ _ h => kd_inj.mp h)
theorem gNotIn_t {n : Nat} {d : PyData} {ds : List PyData} {p : Prop} [Decidable p] (hd : plain n d = true) (hs : ∀ x ∈ ds, plain n x = true) (e : d ∈ ds ↔ p) (hn : n + 1 ≤ 64 := by decide) : gNotIn d (.tuple ds) = some (.bool (!decide p)) := by
  have h2 : plain (n + 1) (.tuple ds) = true := List.all_eq_true.mpr hs
  show (if _ then _ else _) = _
  rw [if_pos ⟨plain_shaped hd (by omega), plain_shaped h2 hn⟩, any_eqv hd hs e]
theorem gNotIn_l {n : Nat} {d : PyData} {ds : List PyData} {p : Prop} [Decidable p] (hd : plain n d = true) (hs : ∀ x ∈ ds, plain n x = true) (e : d ∈ ds ↔ p) (hn : n + 1 ≤ 64 := by decide) : gNotIn d (.list ds) = some (.bool (!decide p)) := by
  have h2 : plain (n + 1) (.list ds) = true := List.all_eq_true.mpr hs
  show (if _ then _ else _) = _
  rw [if_pos ⟨plain_shaped hd (by omega), plain_shaped h2 hn⟩, any_eqv hd hs e]
@[simp] theorem gNotIn_kt (k : Ky) (ks : List Ky) : gNotIn (.str k.s) (.tuple (ks.map kd)) = some (.bool (!decide (k ∈ ks))) := gNotIn_t (pl_kd k) pl_map (mem_map_inj fun _ _ h => kd_inj.mp h)
@[simp] theorem gNotIn_kl (k : Ky) (ks : List Ky) : gNotIn (.str k.s) (.list (ks.map kd)) = some (.bool (!decide (k ∈ ks))) := gNotIn_l (pl_kd k) pl_map (mem_map_inj fun _ _ h => kd_inj.mp h)
@[simp] theorem gEq_enc (p q : Piece) : gEq p.enc q.enc = some (.bool (decide (p = q))) := gEq_plain (pl_enc p) (pl_enc q) ⟨enc_inj p q, fun h => h ▸ rfl⟩
@[simp] theorem gNe_enc (p q : Piece) : gNe p.enc q.enc = some (.bool (!decide (p = q))) := gNe_plain (pl_enc p) (pl_enc q) ⟨enc_inj p q, fun h => h ▸ rfl⟩
@[simp] theorem gLt_int (i j : Int) : gLt (.int i) (.int j) = some (.bool (decide (i < j))) := rfl
@[simp] theorem gLe_int (i j : Int) : gLe (.int i) (.int j) = some (.bool (decide (i ≤ j))) := rfl
@[simp] theorem gGt_int (i j : Int) : gGt (.int i) (.int j) = some (.bool (decide (j < i))) := rfl
@[simp] theorem gGe_int (i j : Int) : gGe (.int i) (.int j) = some (.bool (decide (j ≤ i))) := rfl
@[simp] theorem gAdd_int (i j : Int) : gAdd (.int i) (.int j) = some (.int (i + j)) := rfl
@[simp] theorem gSub_int (i j : Int) : gSub (.int i) (.int j) = some (.int (i - j)) := rfl
@[simp] theorem gNeg_int (i : Int) : gNeg (.int i) = some (.int (-i)) := rfl
@[simp] theorem gLen_l (ds : List PyData) : gLen [.list ds] = some (.int ds.length) := rfl
@[simp] theorem gLen_t (ds : List PyData) : gLen [.tuple ds] = some (.int ds.length) := rfl
@[simp] theorem gTuple_l (ds : List PyData) : gTuple [.list ds] = some (.tuple ds) := rfl
@[simp] theorem gTuple_t (ds : List PyData) : gTuple [.tuple ds] = some (.tuple ds) := rfl
@[simp] theorem gList_l (ds : List PyData) : gList [.list ds] = some ds := rfl
@[simp] theorem gList_t (ds : List PyData) : gList [.tuple ds] = some ds := rfl
@[simp] theorem truD_i (i : Int) : truD (.int i) = some (i != 0) := rfl
@[simp] theorem truD_b (b : Bool) : truD (.bool b) = some b := rfl
@[simp] theorem truD_l (ds : List PyData) : truD (.list ds) = some !ds.isEmpty := rfl
@[simp] theorem truD_t (ds : List PyData) : truD (.tuple ds) = some !ds.isEmpty := rfl
@[simp] theorem ix_t0 (a : PyData) (r : List PyData) : gIx (.tuple (a :: r)) (.int 0) = some a := by
  show atI (a :: r) 0 = some a
  simp [atI, ixN]
@[simp] theorem ix_t1 (a b : PyData) (r : List PyData) : gIx (.tuple (a :: b :: r)) (.int 1) = some b := by
  show atI (a :: b :: r) 1 = some b
  simp [atI, ixN]
  rw [if_pos (by omega)]
  rfl
@[simp] theorem ix_t2 (a b c : PyData) (r : List PyData) : gIx (.tuple (a :: b :: c :: r)) (.int 2) = some c := by
  show atI (a :: b :: c :: r) 2 = some c
  simp [atI, ixN]
  rw [if_pos (by omega)]
  rfl
@[simp] theorem ix_t3 (a b c d : PyData) (r : List PyData) : gIx (.tuple (a :: b :: c :: d :: r)) (.int 3) = some d := by
  show atI (a :: b :: c :: d :: r) 3 = some d
  simp [atI, ixN]
  rw [if_pos (by omega)]
  rfl
theorem small_line (n : Nat) (h : n ≤ 100) : n ≤ sizeLine := by rw [sizeLine_eq]; omega
abbrev Commit := List (Ky × Int)

abbrev Hist := List Commit

def encP (p : Ky × Int) : PyData := .tuple [kd p.1, .int p.2]

def encC (c : Commit) : PyData := .tuple (c.map encP)

def encH (h : Hist) : PyData := .list (h.map encC)

def encN (n : List Piece) : PyData := .list (n.map Piece.enc)


def writesOf (h : Hist) (k : Ky) : List Int := h.flatMap fun c => (c.filter fun p => decide (p.1 = k)).map (·.2)

theorem fm_if {α : Type} (p : α → Bool) (f : α → PyData) (xs : List α) : (xs.filterMap fun x => if p x = true then some (f x) else none) = (xs.filter p).map f := by
  induction xs with
  | nil => rfl
  | cons x xs ih =>
    rw [List.filterMap_cons, List.filter_cons]
    cases p x <;> simp [ih]

theorem gSl_take (ds : List PyData) (n : Nat) : gSl (.list ds) none (some (n : Int)) = some (.list (ds.take n)) := by
  show some (PyData.list (cutL ds none (some (n : Int)))) = _
  congr 2
  unfold cutL HT.sIx
  simp only [List.drop_zero, Nat.sub_zero]
  rw [if_neg (by omega)]
  by_cases h : n ≤ ds.length
  · congr 1; omega
  · rw [List.take_of_length_le (by omega), List.take_of_length_le (by omega)]

def namesOf : Piece → List Ky
  | .wrote _ ks => ks
  | .among _ ks => ks
  | .did _ k => [k]
  | .times k _ _ => [k]
  | _ => []

def goodC (shelf : List Ky) (c : Commit) : Bool := !c.isEmpty && decide (c.map (·.1) = shelf.filter fun k => decide (k ∈ c.map (·.1)))

def isHist (shelf : List Ky) (h : Hist) : Bool := h.all (goodC shelf)

def wfP : Piece → Prop
  | .head v => 0 ≤ v
  | .times _ v _ => 0 ≤ v
  | .value _ i _ => 1 ≤ i
  | .wrote v _ => 1 ≤ v
  | .among v _ => 1 ≤ v
  | .many v _ => 1 ≤ v
  | .did v _ => 1 ≤ v

/-- the keys of the commit of a version -/
def atV (h : Hist) (v : Int) : List Ky := ((h[(v - 1).toNat]?).getD []).map (·.1)

def isTrue (h : Hist) : Piece → Bool
  | .head _ => true
  | .times k v n => decide (((writesOf (h.take v.toNat) k).length : Int) = n)
  | .value k i v => decide (((writesOf h k).length : Int) < i) || decide ((writesOf h k)[(i - 1).toNat]? = some v)
  | .wrote v ks => decide (atV h v = ks)
  | .many v n => decide (((atV h v).length : Int) = n)
  | .did v k => decide (k ∈ atV h v)
  | .among v ks => (atV h v).all fun k => decide (k ∈ ks)

def namesOk (shelf : List Ky) (p : Piece) : Bool := (namesOf p).all fun k => decide (k ∈ shelf)

/-- every key's writes by every version are few -/
def Small (h : Hist) : Prop := ∀ n k, (writesOf (h.take n) k).length ≤ sizeLine

theorem Small.all {h : Hist} (s : Small h) (k : Ky) : (writesOf h k).length ≤ sizeLine := by
  have := s h.length k
  rwa [List.take_length] at this

theorem gIx_lst {ds : List PyData} {i : Int} {d : PyData} (h0 : 0 ≤ i) (h : ds[i.toNat]? = some d) : gIx (.list ds) (.int i) = some d := by
  show atI ds i = _
  unfold atI ixN
  have := (List.getElem?_eq_some_iff.mp h).1
  rw [if_pos h0, if_pos (by omega)]
  exact h

theorem gIx_tup {ds : List PyData} {i : Int} {d : PyData} (h0 : 0 ≤ i) (h : ds[i.toNat]? = some d) : gIx (.tuple ds) (.int i) = some d := by
  show atI ds i = _
  unfold atI ixN
  have := (List.getElem?_eq_some_iff.mp h).1
  rw [if_pos h0, if_pos (by omega)]
  exact h

theorem boolsOf_map {α : Type} (p : α → Bool) (xs : List α) : boolsOf (xs.map fun x => .bool (p x)) = some (xs.map p) := by
  induction xs with
  | nil => rfl
  | cons x xs ih =>
    rw [List.map_cons]
    unfold boolsOf
    rw [ih]
    rfl

theorem gAll_map {α : Type} (p : α → Bool) (xs : List α) : gAll2 [.list (xs.map fun x => .bool (p x))] = some (.bool (xs.all p)) := by
  show (boolsOf _).map _ = _
  rw [boolsOf_map]
  simp [List.all_map]

theorem gAny_map {α : Type} (p : α → Bool) (xs : List α) : gAny [.list (xs.map fun x => .bool (p x))] = some (.bool (xs.any p)) := by
  show (boolsOf _).map _ = _
  rw [boolsOf_map]
  simp [List.any_map]

def headOf (n : List Piece) : Int := (n.map Piece.ver).foldl max 0

theorem intsOf_map (xs : List Int) : intsOf (xs.map .int) = some xs := by
  induction xs with
  | nil => rfl
  | cons x xs ih =>
    rw [List.map_cons]
    unfold intsOf
    rw [ih]
    rfl

theorem headOf_ge (n : List Piece) : ∀ p ∈ n, p.ver ≤ headOf n := by
  have : ∀ (xs : List Int) (a : Int), a ≤ xs.foldl max a ∧ ∀ x ∈ xs, x ≤ xs.foldl max a := by
    intro xs
    induction xs with
    | nil => intro a; simp
    | cons y ys ih =>
      intro a
      have := ih (max a y)
      rw [List.foldl_cons]
      refine ⟨by omega, fun x hx => ?_⟩
      rcases List.mem_cons.mp hx with rfl | hx
      · omega
      · exact this.2 x hx
  exact fun p hp => (this (n.map Piece.ver) 0).2 _ (List.mem_map.mpr ⟨p, hp, rfl⟩)

def keyKI (k : Ky) (i : Int) : NestedKey := .tup [.text k.s, .num i]

def toldF : Piece → Option (NestedKey × PyData)
  | .value k i v => some (keyKI k i, .int v)
  | _ => none

def toldK (n : List Piece) : Kvs := (n.map toldF).foldl putO []

theorem keyKI_inj {k k' : Ky} {i i' : Int} : keyKI k i = keyKI k' i' ↔ k = k' ∧ i = i' := by
  unfold keyKI
  constructor
  · intro h
    simp at h
    exact ⟨kd_inj.mp (congrArg PyData.str h.1), h.2⟩
  · rintro ⟨rfl, rfl⟩; rfl

theorem keyD_KI (k : Ky) (i : Int) : keyD (.tuple [.str k.s, .int i]) = some (keyKI k i) := by
  simp [keyD, keyOf, keysOf, keyKI, NestedKey.depth, NestedKey.depthAll]

theorem look_put (kvs : Kvs) (k k' : NestedKey) (d : PyData) : kLook (kPut kvs k d) k' = if k = k' then some d else kLook kvs k' := by
  induction kvs with
  | nil => simp [kPut, kLook]
  | cons p r ih =>
    unfold kPut
    by_cases h : p.1 = k
    · rw [if_pos h]
      unfold kLook
      dsimp only
      by_cases h2 : k = k'
      · rw [if_pos (h.trans h2), if_pos h2]
      · rw [if_neg (fun z => h2 (h.symm.trans z)), if_neg (fun z => h2 (h.symm.trans z)), if_neg h2]
    · rw [if_neg h]
      unfold kLook
      rw [ih]
      by_cases h2 : p.1 = k'
      · rw [if_pos h2, if_pos h2, if_neg (fun z => h (h2.trans z.symm))]
      · rw [if_neg h2, if_neg h2]

/-- the value told last -/
def told (n : List Piece) (k : Ky) (i : Int) : Option Int := n.foldl (fun a p => match p with
  | .value k' i' v => if k' = k ∧ i' = i then some v else a
  | _ => a) none

theorem look_told (n : List Piece) (k : Ky) (i : Int) : kLook (toldK n) (keyKI k i) = (told n k i).map .int := by
  have : ∀ (n : List Piece) (acc : Kvs) (a : Option Int), kLook acc (keyKI k i) = a.map .int → kLook ((n.map toldF).foldl putO acc) (keyKI k i) = (n.foldl (fun a p => match p with
  | .value k' i' v => if k' = k ∧ i' = i then some v else a
  | _ => a) a).map .int := by
    intro n
    induction n with
    | nil => intro acc a h; exact h
    | cons p n ih =>
      intro acc a h
      rw [List.map_cons, List.foldl_cons, List.foldl_cons]
      refine ih _ _ ?_
      cases p with
      | value k' i' v =>
        show kLook (kPut acc (keyKI k' i') (.int v)) (keyKI k i) = _
        rw [look_put]
        by_cases e : k' = k ∧ i' = i
        · rw [if_pos (keyKI_inj.mpr e)]
          simp [e]
        · rw [if_neg (fun z => e (keyKI_inj.mp z))]
          simp [e, h]
      | _ => exact h
  exact this n [] none rfl


theorem told_some {n : List Piece} {k : Ky} {i v : Int} (h : Piece.value k i v ∈ n) : ∃ w, told n k i = some w := by
  have : ∀ (n : List Piece) (a : Option Int), ((∃ v, Piece.value k i v ∈ n) ∨ ∃ w, a = some w) → ∃ w, (n.foldl (fun a p => match p with
  | .value k' i' v => if k' = k ∧ i' = i then some v else a
  | _ => a) a) = some w := by
    intro n
    induction n with
    | nil =>
      intro a h
      rcases h with ⟨v, h⟩ | h
      · cases h
      · exact h
    | cons p n ih =>
      intro a h
      rw [List.foldl_cons]
      refine ih _ ?_
      rcases h with ⟨v, h⟩ | ⟨w, rfl⟩
      · rcases List.mem_cons.mp h with rfl | h
        · exact .inr ⟨v, by simp⟩
        · exact .inl ⟨v, h⟩
      · right
        cases p with
        | value k' i' v' => by_cases e : k' = k ∧ i' = i <;> simp [e]
        | _ => exact ⟨w, rfl⟩
  exact this n none (.inl ⟨v, h⟩)

def differs (n : List Piece) : Piece → Bool
  | .value k i v => decide (told n k i ≠ some v)
  | _ => false

def valuesDiffer (n : List Piece) : Bool := n.any (differs n)

def agreesB (shelf : List Ky) (h : Hist) (n : List Piece) : Bool := isHist shelf h && decide ((h.length : Int) = headOf n) && !valuesDiffer n && n.all fun p => namesOk shelf p && isTrue h p

abbrev drawD (s : List Int) (a : Nat) (b c : Int) : List PyData := [.list (s.map .int), .int a, .int b, .int c]

/-- a list of draws -/
def DrawOk (o : List PyData) : Prop := ∃ (s : List Int) (a : Nat) (b c : Int), o = drawD s a b c ∧ 0 ≤ b

@[simp] theorem ix_l0 (a : PyData) (r : List PyData) : gIx (.list (a :: r)) (.int 0) = some a := gIx_lst (by decide) rfl

@[simp] theorem ix_l1 (a b : PyData) (r : List PyData) : gIx (.list (a :: b :: r)) (.int 1) = some b := gIx_lst (by decide) rfl

@[simp] theorem ix_l2 (a b c : PyData) (r : List PyData) : gIx (.list (a :: b :: c :: r)) (.int 2) = some c := gIx_lst (by decide) rfl

@[simp] theorem ix_l3 (a b c d : PyData) (r : List PyData) : gIx (.list (a :: b :: c :: d :: r)) (.int 3) = some d := gIx_lst (by decide) rfl

@[simp] theorem gMod_int {i j : Int} (h : 0 < j) : gMod (.int i) (.int j) = some (.int (i % j)) := by
  show (if _ then _ else _) = _
  rw [if_pos h]

@[simp] theorem gDiv_int {i j : Int} (h : 0 < j) (h2 : j < 1073741824) : gDiv (.int i) (.int j) = some (.int (i / j)) := by
  show (if _ then _ else _) = _
  rw [if_pos ⟨h, h2⟩]

@[simp] theorem gMulA_int {i j : Int} (h : -(2 ^ 64) < j ∧ j < 2 ^ 64) : gMulA (.int i) (.int j) = some (.int (i * j)) := by
  show (if _ then _ else _) = _
  rw [if_pos (.inr h)]

@[simp] theorem gMulA_ib (i : Int) (b : Bool) : gMulA (.int i) (.bool b) = some (.int (i * if b = true then 1 else 0)) := rfl

@[simp] theorem gAbs_int (i : Int) : gAbs [.int i] = some (.int (if i < 0 then -i else i)) := rfl

@[simp] theorem gInt_int (i : Int) : gInt1 [.int i] = some (.int i) := rfl

@[simp] theorem gPow18 : gPow (.int 10) (.int 18) = some (.int 1000000000000000000) := by kernel_rfl

def selfOk : Nat → PyData → Bool
  | _, .none => true
  | _, .bool _ => true
  | _, .int _ => true
  | _, .str x => PyData.strOk x
  | n + 1, .list ds => decide (ds.length ≤ 16777216) && ds.all (selfOk n)
  | n + 1, .tuple ds => decide (ds.length ≤ 16777216) && ds.all (selfOk n)
  | _, _ => false

@[simp] theorem gIs_none (d : PyData) : gIs d .none = some (.bool (isNo d)) := rfl

@[simp] theorem isNo_none : isNo .none = true := rfl

@[simp] theorem isNo_b (b : Bool) : isNo (.bool b) = false := rfl

@[simp] theorem isNo_i (b : Int) : isNo (.int b) = false := rfl

@[simp] theorem isNo_s (b : Str) : isNo (.str b) = false := rfl

theorem gEq_self {x : Str} (h : PyData.strOk x = true) : gEq (.str x) (.str x) = some (.bool true) := gEq_kd ⟨x, h⟩ ⟨x, h⟩ |>.trans (by simp)

theorem compD_any {α β : Type} {g : GM} {t : TM} {m : VM} {vs : List Nat} {enc : α → PyData} {en2 : β → PyData} (Inv : Rho → Prop) : ∀ (xs : List α) (ρ : Rho), (∀ x ∈ xs, ∀ ρ, Inv ρ → ∃ (y : Option β) (ρ' : Rho), stepD g t m vs (enc x) ρ = some (y.map en2, ρ') ∧ Inv ρ') → Inv ρ →
    ∃ (ys : List β) (ρ' : Rho), compD g t m vs (xs.map enc) ρ = some (ys.map en2, ρ') ∧ Inv ρ'
  | [], ρ, _, h => ⟨[], ρ, rfl, h⟩
  | x :: xs, ρ, H, h => by
    obtain ⟨y, ρ1, e, h1⟩ := H x (by simp) ρ h
    obtain ⟨ys, ρ2, e2, h2⟩ := compD_any Inv xs ρ1 (fun z hz => H z (by simp [hz])) h1
    refine ⟨y.toList ++ ys, ρ2, ?_, h2⟩
    rw [List.map_cons, compD_cons, e]
    show (compD g t m vs (xs.map enc) ρ1).map _ = _
    rw [e2]
    cases y <;> rfl

theorem seq_nx {m n : SM} {ρ ρ1 : Rho} {r : Option (Fl × Rho)} (h1 : m ρ = some (.nx, ρ1)) (h2 : n ρ1 = r) : sSeq m n ρ = r := by
  rw [a_sSeq, h1]
  exact h2

theorem writes_take (h : Hist) (k : Ky) (n : Nat) : (writesOf (h.take n) k).length ≤ (writesOf h k).length ∧ writesOf (h.take n) k = (writesOf h k).take (writesOf (h.take n) k).length := by
  have e : writesOf h k = writesOf (h.take n) k ++ writesOf (h.drop n) k := by
    unfold writesOf
    rw [← List.flatMap_append, List.take_append_drop]
  refine ⟨by rw [e, List.length_append]; omega, ?_⟩
  generalize writesOf (h.take n) k = x at e ⊢
  rw [e, List.take_left]

theorem rg1 {r : RM} {ρ ρ' : Rho} {rs : List Ref} {j : Int} (h : r ρ = some (rs, ρ')) (h2 : rdAll ρ' rs = some [.int j]) (h3 : j ≤ 16777216) (h4 : 0 ≤ j) : iRg1 r ρ = some ((List.range j.toNat).map fun (i : Nat) => .int i, ρ') := by
  rw [a_iRg1, h]
  show (match rdAll ρ' rs with
  | some [.int j] => if j ≤ 16777216 ∧ -(2 ^ 62) ≤ j then some (rngD 0 j.toNat, ρ') else none
  | _ => none) = _
  rw [h2]
  have h5 : j ≤ 16777216 ∧ -(2 ^ 62) ≤ j := ⟨h3, by omega⟩
  show (if j ≤ 16777216 ∧ -(2 ^ 62) ≤ j then some (rngD 0 j.toNat, ρ') else none) = _
  rw [if_pos h5]
  simp [rngD]

theorem gSl_drop (ds : List PyData) (n : Nat) : gSl (.list ds) (some (n : Int)) none = some (.list (ds.drop n)) := by
  show some (PyData.list (cutL ds (some (n : Int)) none)) = _
  congr 2
  unfold cutL HT.sIx
  dsimp only
  rw [if_neg (by omega), Int.toNat_natCast]
  by_cases h : n ≤ ds.length
  · rw [Nat.min_eq_left h, ← List.length_drop, List.take_length]
  · rw [Nat.min_eq_right (by omega), List.drop_length, List.drop_eq_nil_of_le (by omega)]
    simp

theorem gSl_takeT (ds : List PyData) (n : Nat) : gSl (.tuple ds) none (some (n : Int)) = some (.tuple (ds.take n)) := by
  show some (PyData.tuple (cutL ds none (some (n : Int)))) = _
  congr 2
  unfold cutL HT.sIx
  simp only [List.drop_zero, Nat.sub_zero]
  rw [if_neg (by omega)]
  by_cases h : n ≤ ds.length
  · congr 1; omega
  · rw [List.take_of_length_le (by omega), List.take_of_length_le (by omega)]

theorem gMax2 (i j : Int) : gMax [.int i, .int j] = some (.int (if j > i then j else i)) := rfl

end Vx
/-! Vo: computations that end well: loops and comprehensions by what they keep. -/
namespace Vx
open PySem PySem.Spec L2

/-- it ends, and Q of what it gives -/
def Ok {α : Type} (o : Option α) (Q : α → Prop) : Prop := ∃ x, o = some x ∧ Q x
section
variable {α β : Type} {o : Option α} {f : α → Option β} {Q : β → Prop} {P R : α → Prop}
theorem Ok.mono (h : Ok o P) (k : ∀ x, P x → R x) : Ok o R := let ⟨x, e, p⟩ := h; ⟨x, e, k x p⟩
theorem Ok.bind (h : Ok o P) (k : ∀ x, P x → Ok (f x) Q) : Ok (o.bind f) Q := let ⟨x, e, p⟩ := h; by rw [e]; exact k x p
theorem Ok.intro {x : α} (h : P x) : Ok (some x) P := ⟨x, rfl, h⟩
theorem Ok.of {x : α} (e : o = some x) (h : P x) : Ok o P := ⟨x, e, h⟩
theorem Ok.eq {x : α} (h : Ok o fun y => y = x) : o = some x := let ⟨_, e, p⟩ := h; p ▸ e
end
/-- behind a turn: what is kept, or the end -/
abbrev StepQ (I : Rho → Prop) (P : Fl × Rho → Prop) (p : Fl × Rho) : Prop := match p.1 with
  | .nx => I p.2
  | .ct => I p.2
  | .bk => P (.nx, p.2)
  | .rt r => P (.rt r, p.2)
theorem st_nx {I : Rho → Prop} {P : Fl × Rho → Prop} {o : Option (Fl × Rho)} {ρ : Rho} (e : o = some (.nx, ρ)) (h : I ρ) : Ok o (StepQ I P) := ⟨_, e, h⟩
theorem st_ct {I : Rho → Prop} {P : Fl × Rho → Prop} {o : Option (Fl × Rho)} {ρ : Rho} (e : o = some (.ct, ρ)) (h : I ρ) : Ok o (StepQ I P) := ⟨_, e, h⟩
theorem st_bk {I : Rho → Prop} {P : Fl × Rho → Prop} {o : Option (Fl × Rho)} {ρ : Rho} (e : o = some (.bk, ρ)) (h : P (.nx, ρ)) : Ok o (StepQ I P) := ⟨_, e, h⟩
theorem st_rt {I : Rho → Prop} {P : Fl × Rho → Prop} {o : Option (Fl × Rho)} {r : Rv} {ρ : Rho} (e : o = some (.rt r, ρ)) (h : P (.rt r, ρ)) : Ok o (StepQ I P) := ⟨_, e, h⟩
/-- a loop: Inv of what is left -/
theorem ok_loop {α : Type} {g : GM} {m : SM} {enc : α → PyData} {Post : Fl × Rho → Prop} (Inv : List α → Rho → Prop) {xs : List α} {ρ : Rho} (start : Inv xs ρ)
    (step : ∀ x rest ρ, x ∈ xs → Inv (x :: rest) ρ → Ok ((g (enc x) ρ).bind m) (StepQ (Inv rest) Post)) (done : ∀ ρ, Inv [] ρ → Post (.nx, ρ)) : Ok (loopD g m (xs.map enc) ρ) Post := by
  have key : ∀ (ys : List α) (ρ : Rho), (∀ y ∈ ys, y ∈ xs) → Inv ys ρ → Ok (loopD g m (ys.map enc) ρ) Post := by
    intro ys
    induction ys with
    | nil => exact fun ρ _ h => ⟨(.nx, ρ), rfl, done ρ h⟩
    | cons x ys ih =>
      intro ρ hm h
      obtain ⟨⟨f, ρ2⟩, e, q⟩ := step x ys ρ (hm x (by simp)) h
      obtain ⟨ρ1, e1, e2⟩ := Option.bind_eq_some_iff.mp e
      rw [List.map_cons, loop_cons e1 e2]
      cases f with
      | nx => exact ih ρ2 (fun y hy => hm y (by simp [hy])) q
      | ct => exact ih ρ2 (fun y hy => hm y (by simp [hy])) q
      | bk => exact ⟨_, rfl, q⟩
      | rt r => exact ⟨_, rfl, q⟩
  exact key xs ρ (fun _ h => h) start
/-- a comprehension whose turns may change the slots: Inv of what was done, with what was made -/
theorem ok_comp {α : Type} {g : GM} {t : TM} {m : VM} {vs : List Nat} {enc : α → PyData} {Post : List PyData × Rho → Prop} (Inv : List α → List PyData → Rho → Prop) {xs : List α} {ρ : Rho} (start : Inv [] [] ρ)
    (step : ∀ x l ds ρ, x ∈ xs → Inv l ds ρ → Ok (stepD g t m vs (enc x) ρ) fun p => Inv (l ++ [x]) (ds ++ p.1.toList) p.2) (done : ∀ ds ρ, Inv xs ds ρ → Post (ds, ρ)) : Ok (compD g t m vs (xs.map enc) ρ) Post := by
  have key : ∀ (ys l : List α) (ds : List PyData) (ρ : Rho), (∀ y ∈ ys, y ∈ xs) → l ++ ys = xs → Inv l ds ρ → Ok (compD g t m vs (ys.map enc) ρ) fun p => Post (ds ++ p.1, p.2) := by
    intro ys
    induction ys with
    | nil =>
      intro l ds ρ _ e h
      refine ⟨([], ρ), rfl, ?_⟩
      rw [List.append_nil] at e ⊢
      exact done ds ρ (e ▸ h)
    | cons x ys ih =>
      intro l ds ρ hm e h
      obtain ⟨⟨o, ρ1⟩, e1, q⟩ := step x l ds ρ (hm x (by simp)) h
      obtain ⟨⟨es, ρ2⟩, e2, q2⟩ := ih (l ++ [x]) (ds ++ o.toList) ρ1 (fun y hy => hm y (by simp [hy])) (by simp [e]) q
      refine ⟨(o.toList ++ es, ρ2), ?_, by simpa using q2⟩
      rw [List.map_cons, compD_cons, e1]
      show (compD g t m vs (ys.map enc) ρ1).map _ = _
      rw [e2]
      rfl
  exact (key xs [] [] ρ (fun _ h => h) rfl start).mono fun p h => by simpa using h
/-- a comprehension that filters and maps -/
theorem comp_fm {α : Type} {g : GM} {t : TM} {m : VM} {vs : List Nat} {ρ : Rho} {enc : α → PyData} (p : α → Bool) (f : α → PyData) {xs : List α} (H : ∀ x ∈ xs, stepD g t m vs (enc x) ρ = some (if p x = true then some (f x) else none, ρ)) : compD g t m vs (xs.map enc) ρ = some ((xs.filter p).map f, ρ) := by
  rw [compD_fm _ H, fm_if]
theorem comp2_fm {α β : Type} {g : GM} {t : TM} {it1 : IM} {g1 : GM} {t1 : TM} {m : VM} {vs vs1 : List Nat} {ρ : Rho} {enc : α → PyData} {en2 : β → PyData} (h : α → List β) : ∀ {xs : List α},
    (∀ x ∈ xs, ∃ ρ1, g (enc x) ρ = some ρ1 ∧ t ρ1 = some (true, ρ1) ∧ ∃ ds ρ2 ρ3, it1 ρ1 = some (ds, ρ1) ∧ wipeO ρ1 vs1 = some ρ2 ∧ compD g1 t1 m vs1 ds ρ2 = some ((h x).map en2, ρ3) ∧ wipeO ρ3 vs = some ρ) →
    comp2D g t it1 g1 t1 m vs vs1 (xs.map enc) ρ = some ((xs.flatMap h).map en2, ρ) := by
  intro xs H
  have := comp2D_flat (g := g) (t := t) (it1 := it1) (g1 := g1) (t1 := t1) (m := m) (vs := vs) (vs1 := vs1) (ρ := ρ) (enc := enc) (fun _ => true) (fun x => (h x).map en2) (xs := xs) fun x hx => by
    obtain ⟨ρ1, a, b, c⟩ := H x hx
    exact ⟨ρ1, a, b, fun _ => c, fun z => nomatch z⟩
  rw [this, List.filter_eq_self.mpr (fun _ _ => rfl), List.map_flatMap]
/-! ### the dicts' combinators applied -/
section
variable {ρ : Rho} {i : Nat} {ma mb mc : EM} {va vb : VM} {g g' : D2}
@[simp] theorem a_dChain : dChain g g' ma mb mc ρ = (ma ρ).bind fun p => (mb p.2).bind fun q => (rd q.2 p.1).bind fun a => (rd q.2 q.1).bind fun b => match g a b with
  | some (.bool k) => if k = true then (mc q.2).bind fun r => (rd r.2 q.1).bind fun b' => (rd r.2 r.1).bind fun c => (g' b' c).map fun d => (.dat d, r.2) else some (.dat (.bool false), q.2)
  | _ => none := rfl
@[simp] theorem a_dDG2 : dDG2 i ma mb ρ = (dctAt ρ i).bind fun _ => (ma ρ).bind fun q => (mb q.2).bind fun r => (rd r.2 q.1).bind fun kd => (keyD kd).bind fun k => (dctAt r.2 i).map fun kvs => (match kLook kvs k with | some d => .dat d | none => r.1, r.2) := rfl
@[simp] theorem a_dDSd : dDSd i ma va ρ = (dctAt ρ i).bind fun _ => (ma ρ).bind fun q => (va q.2).bind fun r => (rd r.2 q.1).bind fun kd => (keyD kd).bind fun k => (dctAt r.2 i).bind fun kvs => match kLook kvs k with
  | some d => some (.dat d, r.2)
  | none => if kvs.length < sizeLine then some (.dat r.1, updD r.2 i (kPut kvs k r.1)) else none := rfl
@[simp] theorem a_sSetD : sSetD i ma va ρ = (va ρ).bind fun p => (dctAt p.2 i).bind fun _ => (ma p.2).bind fun q => (rd q.2 q.1).bind fun kd => (keyD kd).bind fun k => (dctAt q.2 i).bind fun kvs => if (kPut kvs k p.1).length ≤ sizeLine then some (.nx, updD q.2 i (kPut kvs k p.1)) else none := rfl
@[simp] theorem a_dDIn {n : Bool} : dDIn n ma i ρ = (ma ρ).bind fun q => (rd q.2 q.1).bind fun kd => (keyD kd).bind fun k => (dctAt q.2 i).map fun kvs => (.dat (.bool (if n = true then !(kLook kvs k).isSome else (kLook kvs k).isSome)), q.2) := rfl
@[simp] theorem a_oNewD : oNewD ρ = some (.dct [], ρ) := rfl
@[simp] theorem a_oDisp1 : oDisp1 va vb ρ = (va ρ).bind fun p => (vb p.2).bind fun q => (keyD p.1).map fun k => (.dct [(k, q.1)], q.2) := rfl
@[simp] theorem a_oSortDI : oSortDI i ρ = (dctAt ρ i).bind fun kvs => (numsOf kvs).bind fun ns => if ns.length < 64 then some (.lst ((sortI ns).map .int), ρ) else none := rfl
@[simp] theorem a_oKeysD : oKeysD i ρ = (dctAt ρ i).map fun kvs => (.lst (kvs.map fun q => q.1.data), ρ) := rfl
@[simp] theorem a_dctAt : dctAt ρ i = match ρ[i]? with
  | some (.own (.dct k)) => some k
  | some (.io (.dct k)) => some k
  | _ => none := by unfold dctAt; rfl
end
@[simp] theorem keyD_int (i : Int) : keyD (.int i) = some (.num i) := by simp [keyD, keyOf, NestedKey.depth]
@[simp] theorem keyD_str (x : Str) : keyD (.str x) = some (.text x) := by simp [keyD, keyOf, NestedKey.depth]
@[simp] theorem gAddI_int (i j : Int) : gAddI (.int i) (.int j) = some (.int (i + j)) := rfl
theorem gSum_map (xs : List Int) : gSum [.list (xs.map .int)] = some (.int xs.sum) := by
  show (intsOf _).map _ = _
  rw [intsOf_map]
  rfl
theorem gSorted_map (xs : List Int) : gSorted [.list (xs.map .int)] = some ((sortI xs).map .int) := by
  show (intsOf _).map _ = _
  rw [intsOf_map]
  rfl
theorem headOf_nn (n : List Piece) : 0 ≤ headOf n := by
  have : ∀ (xs : List Int) (a : Int), a ≤ xs.foldl max a := by
    intro xs
    induction xs with
    | nil => intro a; simp
    | cons y ys ih => intro a; have := ih (max a y); rw [List.foldl_cons]; omega
  exact this _ 0
/-! ### dicts from numbers to numbers -/
abbrev IK := List (Int × Int)
def encIK (m : IK) : Kvs := m.map fun p => (.num p.1, .int p.2)
def lookI : IK → Int → Option Int
  | [], _ => none
  | p :: m, k => if p.1 = k then some p.2 else lookI m k
def putI : IK → Int → Int → IK
  | [], k, v => [(k, v)]
  | p :: m, k, v => if p.1 = k then (p.1, v) :: m else p :: putI m k v
@[simp] theorem look_encIK (m : IK) (k : Int) : kLook (encIK m) (.num k) = (lookI m k).map .int := by
  induction m with
  | nil => rfl
  | cons p m ih =>
    show (if NestedKey.num p.1 = .num k then _ else kLook (encIK m) (.num k)) = (if p.1 = k then some p.2 else lookI m k).map .int
    by_cases h : p.1 = k
    · rw [if_pos h, if_pos (by rw [h])]; rfl
    · rw [if_neg h, if_neg (by simpa using h), ih]
@[simp] theorem put_encIK (m : IK) (k v : Int) : kPut (encIK m) (.num k) (.int v) = encIK (putI m k v) := by
  induction m with
  | nil => rfl
  | cons p m ih =>
    show kPut ((NestedKey.num p.1, PyData.int p.2) :: encIK m) (.num k) (.int v) = encIK (if p.1 = k then (p.1, v) :: m else p :: putI m k v)
    unfold kPut
    by_cases h : p.1 = k
    · rw [if_pos h, if_pos (by rw [h])]; rfl
    · rw [if_neg h, if_neg (by simpa using h), ih]; rfl
theorem look_putI (m : IK) (k v k' : Int) : lookI (putI m k v) k' = if k = k' then some v else lookI m k' := by
  induction m with
  | nil => rfl
  | cons p m ih =>
    show lookI (if p.1 = k then (p.1, v) :: m else p :: putI m k v) k' = if k = k' then some v else (if p.1 = k' then some p.2 else lookI m k')
    by_cases h : p.1 = k
    · rw [if_pos h]
      show (if p.1 = k' then some v else lookI m k') = _
      by_cases h2 : k = k'
      · rw [if_pos (h.trans h2), if_pos h2]
      · rw [if_neg (fun z => h2 (h.symm.trans z)), if_neg h2, if_neg (fun z => h2 (h.symm.trans z))]
    · rw [if_neg h]
      show (if p.1 = k' then some p.2 else lookI (putI m k v) k') = _
      rw [ih]
      by_cases h2 : p.1 = k'
      · rw [if_pos h2, if_pos h2, if_neg (fun z => h (h2.trans z.symm))]
      · rw [if_neg h2, if_neg h2]
theorem putI_keys (m : IK) (k v : Int) : (putI m k v).map (·.1) = if (lookI m k).isSome = true then m.map (·.1) else m.map (·.1) ++ [k] := by
  induction m with
  | nil => rfl
  | cons p m ih =>
    show (if p.1 = k then (p.1, v) :: m else p :: putI m k v).map (·.1) = if (if p.1 = k then some p.2 else lookI m k).isSome = true then _ else _
    by_cases h : p.1 = k
    · rw [if_pos h, if_pos h]; rfl
    · rw [if_neg h, if_neg h, List.map_cons, ih]
      by_cases q : (lookI m k).isSome = true
      · rw [if_pos q, if_pos q]; rfl
      · rw [if_neg q, if_neg q]; rfl
theorem lookI_none {m : IK} {k : Int} : lookI m k = none ↔ k ∉ m.map (·.1) := by
  induction m with
  | nil => simp [lookI]
  | cons p m ih =>
    show (if p.1 = k then some p.2 else lookI m k) = none ↔ _
    by_cases h : p.1 = k
    · rw [if_pos h]; simp [h]
    · rw [if_neg h, ih]; simp [show ¬ k = p.1 from fun z => h z.symm]
theorem putI_nodup {m : IK} {k v : Int} (h : (m.map (·.1)).Nodup) : ((putI m k v).map (·.1)).Nodup := by
  rw [putI_keys]
  by_cases q : (lookI m k).isSome = true
  · rw [if_pos q]; exact h
  · rw [if_neg q]
    have : lookI m k = none := by cases e : lookI m k with | none => rfl | some _ => simp [e] at q
    rw [List.nodup_append]
    exact ⟨h, by simp, fun a ha b hb => by rw [List.mem_singleton.mp hb]; rintro rfl; exact lookI_none.mp this ha⟩
theorem putI_len (m : IK) (k v : Int) : (putI m k v).length ≤ m.length + 1 := by
  have := congrArg List.length (putI_keys m k v)
  rw [List.length_map] at this
  rw [this]
  split <;> simp
theorem nums_encIK (m : IK) : numsOf (encIK m) = some (m.map (·.1)) := by
  induction m with
  | nil => rfl
  | cons p m ih =>
    show numsOf ((NestedKey.num p.1, PyData.int p.2) :: encIK m) = _
    unfold numsOf
    rw [ih]
    rfl
theorem keys_encIK (m : IK) : (encIK m).map (fun q => q.1.data) = (m.map (·.1)).map .int := by
  unfold encIK
  rw [List.map_map, List.map_map]
  rfl
@[simp] theorem len_encIK (m : IK) : (encIK m).length = m.length := by simp [encIK]
end Vx
/-! Vb1: bounds.py: cells and numbers. -/
namespace Vw
open PySem PySem.Spec L2 Vx

theorem e_version_of (p : Piece) : d_version_of [.val p.enc] = some (.val (.int p.ver), [.val p.enc]) := by
  cases p <;> kernel_rfl
def shutP (v : Int) (k : Ky) : Piece → Bool
  | .wrote v' ks => decide (v' = v) && !decide (k ∈ ks)
  | .among v' ks => decide (v' = v) && !decide (k ∈ ks)
  | _ => false
def dueP (v : Int) (k : Ky) : Piece → Bool
  | .did v' k' => decide (v' = v) && decide (k' = k)
  | .wrote v' ks => decide (v' = v) && decide (k ∈ ks)
  | _ => false
def isShut (n : List Piece) (v : Int) (k : Ky) : Bool := n.any (shutP v k)
def isDue (n : List Piece) (v : Int) (k : Ky) : Bool := n.any (dueP v k)
theorem e_is_shut (n : List Piece) (v : Int) (k : Ky) : d_is_shut [.val (encN n), .val (.int v), .val (kd k)] = some (.val (.bool (isShut n v k)), [.val (encN n), .val (.int v), .val (kd k)]) := by
  have s2 : (2 : Nat) ≤ sizeLine := small_line 2 (by decide)
  have lp := loop_inv (g := gNm 3) (enc := Piece.enc) (m := l1_is_shut)
    (Post := fun f ρ => (f = .nx ∧ isShut n v k = false ∨ f = .rt (.val (.bool true)) ∧ isShut n v k = true) ∧ ∃ a, ρ = [.val (encN n), .val (.int v), .val (kd k), a])
    (fun xs ρ => isShut n v k = xs.any (shutP v k) ∧ ∃ a, fr a = true ∧ ρ = [.val (encN n), .val (.int v), .val (kd k), a]) (fun p ps ρ ⟨hh, a, fa, e⟩ => by
      subst e
      rw [List.any_cons] at hh
      refine ⟨[.val (encN n), .val (.int v), .val (kd k), .val p.enc], ?_⟩
      cases q : shutP v k p with
      | true =>
        rw [q] at hh
        refine ⟨.rt (.val (.bool true)), [.val (encN n), .val (.int v), .val (kd k), .val p.enc], by simp [fa], ?_, .inr ⟨rfl, by simpa using hh⟩, _, rfl⟩
        cases p <;> simp [shutP] at q <;> simp [l1_is_shut, Piece.enc, s2, q]
      | false =>
        rw [q] at hh
        refine ⟨.nx, [.val (encN n), .val (.int v), .val (kd k), .val p.enc], by simp [fa], ?_, by simpa using hh, _, rfl, rfl⟩
        cases p with
        | wrote v' ks =>
          simp [shutP] at q
          by_cases e : v' = v
          · simp [l1_is_shut, Piece.enc, s2, e, q e]
          · simp [l1_is_shut, Piece.enc, s2, e]
        | among v' ks =>
          simp [shutP] at q
          by_cases e : v' = v
          · simp [l1_is_shut, Piece.enc, s2, e, q e]
          · simp [l1_is_shut, Piece.enc, s2, e]
        | _ => simp [l1_is_shut, Piece.enc, s2])
    (fun ρ ⟨hh, a, fa, e⟩ => ⟨.inl ⟨rfl, by simpa using hh⟩, a, e⟩) n [.val (encN n), .val (.int v), .val (kd k), .un] ⟨rfl, .un, rfl, rfl⟩
  obtain ⟨f, ρ', e1, e2, a, rfl⟩ := lp
  have e3 : encN n = .list (n.map Piece.enc) := rfl
  simp [e3] at e1
  rcases e2 with ⟨rfl, e⟩ | ⟨rfl, e⟩ <;> simp [d_is_shut, b_is_shut, e3, e1, e, backIn]

theorem gEq_vk (v v' : Int) (k k' : Ky) : gEq (.tuple [.int v', .str k'.s]) (.tuple [.int v, .str k.s]) = some (.bool (decide (v' = v) && decide (k' = k))) := by
  have ki : k'.s = k.s ↔ k' = k := ⟨fun h => kd_inj.mp (congrArg PyData.str h), fun h => h ▸ rfl⟩
  rw [gEq_plain (n := 1) (p := v' = v ∧ k' = k) (by simp [Vx.plain, k'.ok]) (by simp [Vx.plain, k.ok]) (by simp [ki])]
  simp
theorem gSl_did (v : Int) (k : Ky) : gSl (.tuple [.str "did", .int v, .str k.s]) (some 1) none = some (.tuple [.int v, .str k.s]) := rfl
theorem e_is_due (n : List Piece) (v : Int) (k : Ky) : d_is_due [.val (encN n), .val (.int v), .val (kd k)] = some (.val (.bool (isDue n v k)), [.val (encN n), .val (.int v), .val (kd k)]) := by
  have s2 : (2 : Nat) ≤ sizeLine := small_line 2 (by decide)
  have lp := loop_inv (g := gNm 3) (enc := Piece.enc) (m := l1_is_due)
    (Post := fun f ρ => (f = .nx ∧ isDue n v k = false ∨ f = .rt (.val (.bool true)) ∧ isDue n v k = true) ∧ ∃ a, ρ = [.val (encN n), .val (.int v), .val (kd k), a])
    (fun xs ρ => isDue n v k = xs.any (dueP v k) ∧ ∃ a, fr a = true ∧ ρ = [.val (encN n), .val (.int v), .val (kd k), a]) (fun p ps ρ ⟨hh, a, fa, e⟩ => by
      subst e
      rw [List.any_cons] at hh
      refine ⟨[.val (encN n), .val (.int v), .val (kd k), .val p.enc], ?_⟩
      cases q : dueP v k p with
      | true =>
        rw [q] at hh
        refine ⟨.rt (.val (.bool true)), [.val (encN n), .val (.int v), .val (kd k), .val p.enc], by simp [fa], ?_, .inr ⟨rfl, by simpa using hh⟩, _, rfl⟩
        cases p <;> simp [dueP] at q <;> simp [l1_is_due, Piece.enc, s2, q, gSl_did, gEq_vk]
      | false =>
        rw [q] at hh
        refine ⟨.nx, [.val (encN n), .val (.int v), .val (kd k), .val p.enc], by simp [fa], ?_, by simpa using hh, _, rfl, rfl⟩
        cases p with
        | wrote v' ks =>
          simp [dueP] at q
          by_cases e : v' = v
          · simp [l1_is_due, Piece.enc, s2, e, q e]
          · simp [l1_is_due, Piece.enc, s2, e]
        | did v' k' =>
          simp [dueP] at q
          by_cases e : v' = v
          · simp [l1_is_due, Piece.enc, s2, gSl_did, gEq_vk, e, q e]
          · simp [l1_is_due, Piece.enc, s2, gSl_did, gEq_vk, e]
        | _ => simp [l1_is_due, Piece.enc, s2])
    (fun ρ ⟨hh, a, fa, e⟩ => ⟨.inl ⟨rfl, by simpa using hh⟩, a, e⟩) n [.val (encN n), .val (.int v), .val (kd k), .un] ⟨rfl, .un, rfl, rfl⟩
  obtain ⟨f, ρ', e1, e2, a, rfl⟩ := lp
  have e3 : encN n = .list (n.map Piece.enc) := rfl
  simp [e3] at e1
  rcases e2 with ⟨rfl, e⟩ | ⟨rfl, e⟩ <;> simp [d_is_due, b_is_due, e3, e1, e, backIn]
def cellS (n : List Piece) (v : Int) (k : Ky) : Str := if isShut n v k = true then "shut" else if isDue n v k = true then "due" else "free"
theorem e_cell (n : List Piece) (v : Int) (k : Ky) : d_cell [.val (encN n), .val (.int v), .val (kd k)] = some (.val (.str (cellS n v k)), [.val (encN n), .val (.int v), .val (kd k)]) := by
  have h1 := e_is_shut n v k
  have h2 := e_is_due n v k
  unfold cellS
  cases q1 : isShut n v k <;> cases q2 : isDue n v k <;> rw [q1] at h1 <;> rw [q2] at h2 <;> simp [d_cell, b_cell, h1, h2, iosOf, mkIn, putB, backIn]

def numP (v : Int) : Piece → Option Int
  | .many v' n => if v' = v then some n else none
  | .wrote v' ks => if v' = v then some ks.length else none
  | _ => none
def numbersAt (n : List Piece) (v : Int) : List Int := n.filterMap (numP v)
theorem e_numbers_at (n : List Piece) (v : Int) (hl : n.length ≤ sizeLine) : d_numbers_at [.val (encN n), .val (.int v)] = some (.val (.list ((numbersAt n v).map .int)), [.val (encN n), .val (.int v)]) := by
  have lp := loop_inv (g := gNm 3) (enc := Piece.enc) (m := l1_numbers_at)
    (Post := fun f ρ => f = .nx ∧ ∃ a, ρ = [.val (encN n), .val (.int v), .own (.lst ((numbersAt n v).map .int)), a])
    (fun xs ρ => ∃ (done : List Int) (a : Sl), fr a = true ∧ done.length + xs.length ≤ n.length ∧ numbersAt n v = done ++ xs.filterMap (numP v) ∧ ρ = [.val (encN n), .val (.int v), .own (.lst (done.map .int)), a]) (fun p ps ρ ⟨done, a, fa, hd, hh, e⟩ => by
      subst e
      have hd' : done.length + (ps.length + 1) ≤ n.length := hd
      have sl : done.length < sizeLine := by omega
      rw [List.filterMap_cons] at hh
      cases q : numP v p with
      | none =>
        rw [q] at hh
        refine ⟨[.val (encN n), .val (.int v), .own (.lst (done.map .int)), .val p.enc], .nx, [.val (encN n), .val (.int v), .own (.lst (done.map .int)), .val p.enc], by simp [fa], ?_, done, _, rfl, by omega, hh, rfl⟩
        cases p <;> simp [numP] at q <;> simp [l1_numbers_at, Piece.enc, q]
      | some m =>
        rw [q] at hh
        refine ⟨[.val (encN n), .val (.int v), .own (.lst (done.map .int)), .val p.enc], .nx, [.val (encN n), .val (.int v), .own (.lst ((done ++ [m]).map .int)), .val p.enc], by simp [fa], ?_, done ++ [m], _, rfl, by simp; omega, by rw [hh]; simp, rfl⟩
        cases p <;> simp [numP] at q <;> simp [l1_numbers_at, Piece.enc, q, sl, updL])
    (fun ρ ⟨done, a, fa, hd, hh, e⟩ => ⟨rfl, a, by rw [e, hh]; simp⟩) n [.val (encN n), .val (.int v), .own (.lst []), .un] ⟨[], .un, rfl, by simp, rfl, rfl⟩
  obtain ⟨f, ρ', e1, rfl, a, rfl⟩ := lp
  have e3 : encN n = .list (n.map Piece.enc) := rfl
  have s0 : (0 : Nat) ≤ sizeLine := Nat.zero_le _
  simp [e3] at e1
  simp [d_numbers_at, b_numbers_at, e3, e1, backIn]
end Vw
/-! Vb2: bounds.py: head, bounds, marks, stretches. -/
namespace Vw
open PySem PySem.Spec L2 Vx

theorem e_head_of (n : List Piece) (hn : n.length < sizeLine) : d_head_of [.val (encN n)] = some (.val (.int (headOf n)), [.val (encN n)]) := by
  have h : compD (gNm 1) tYesM c1_head_of [1] (n.map Piece.enc) [.val (encN n), .un] = some ((n.map Piece.ver).map .int, [.val (encN n), .un]) := by
    rw [List.map_map]
    exact compD_mp _ fun p _ => by simp [stepD, c1_head_of, e_version_of p, iosOf, mkIn, putB]
  have hg : gAdd (.list [.int 0]) (.list ((n.map Piece.ver).map .int)) = some (.list ((0 :: n.map Piece.ver).map .int)) := by
    show (if _ then _ else _) = _
    rw [if_pos (by simp; omega)]
    rfl
  have hm : gMax [.list ((0 :: n.map Piece.ver).map .int)] = some (.int (headOf n)) := by
    show (intsOf _).bind _ = _
    rw [intsOf_map]
    rfl
  have s1 : (1 : Nat) ≤ sizeLine := small_line 1 (by decide)
  simp [encN] at h hg hm
  simp [d_head_of, b_head_of, encN, h, hg, hm, backIn, s1]

def boundsAt (sh : List Ky) (n : List Piece) (v : Int) : Int × Int := match numbersAt n v with
  | m :: _ => (m, m)
  | [] => (1, sh.length)
def encB (b : Int × Int) : PyData := .tuple [.int b.1, .int b.2]
def boundsL (sh : List Ky) (n : List Piece) : List (Int × Int) := (List.range (headOf n).toNat).map fun (i : Nat) => boundsAt sh n (1 + i)
theorem e_bounds (sh : List Ky) (n : List Piece) (hn : n.length < sizeLine) (hh : headOf n ≤ 100) : d_bounds [.val (kds sh), .val (encN n)] = some (.val (.list ((boundsL sh n).map encB)), [.val (kds sh), .val (encN n)]) := by
  have h0 := headOf_nn n
  have s2 : (2 : Nat) ≤ sizeLine := small_line 2 (by decide)
  have s100 := small_line 100 (by decide)
  obtain ⟨p, e1, a, b, rfl⟩ := ok_loop (g := gNm 3) (m := l1_bounds) (enc := fun (i : Nat) => .int (1 + i)) (xs := List.range (headOf n).toNat) (ρ := [.val (kds sh), .val (encN n), .own (.lst []), .un, .un])
    (Post := fun p => ∃ a b, p = (.nx, [.val (kds sh), .val (encN n), .own (.lst ((boundsL sh n).map encB)), a, b]))
    (fun rest ρ => ∃ dn a b, dn ++ rest = List.range (headOf n).toNat ∧ fr a = true ∧ fr b = true ∧ ρ = [.val (kds sh), .val (encN n), .own (.lst ((dn.map fun (i : Nat) => boundsAt sh n (1 + i)).map encB)), a, b])
    ⟨[], .un, .un, rfl, rfl, rfl, rfl⟩ (fun i rest ρ hi ⟨dn, a, b, hd, fa, fb, e⟩ => by
      subst e
      have hl : dn.length < sizeLine := by have := congrArg List.length hd; simp at this; omega
      have en := e_numbers_at n (1 + i) (by omega)
      refine ⟨(.nx, [.val (kds sh), .val (encN n), .own (.lst (((dn ++ [i]).map fun (i : Nat) => boundsAt sh n (1 + i)).map encB)), .val (.int (1 + i)), .val (.list ((numbersAt n (1 + i)).map .int))]), ?_, dn ++ [i], _, _, by simpa using hd, rfl, rfl, rfl⟩
      have hb : boundsAt sh n (1 + i) = match numbersAt n (1 + i) with | m :: _ => (m, m) | [] => (1, (sh.length : Int)) := rfl
      cases q : numbersAt n (1 + i) with
      | nil =>
        rw [q] at en hb
        simp [fa, l1_bounds, en, iosOf, mkIn, putB, fb, s2, hl, updL, hb, encB]
      | cons m ms =>
        rw [q] at en hb
        simp [fa, l1_bounds, en, iosOf, mkIn, putB, fb, s2, hl, updL, hb, encB])
    (fun ρ ⟨dn, a, b, hd, fa, fb, e⟩ => ⟨a, b, by rw [e]; simp at hd; rw [hd]; rfl⟩)
  have e2 := e_head_of n hn
  have l1 : headOf n ≤ 16777216 := by omega
  have r1 : -(4611686018427387904 : Int) ≤ headOf n + 1 ∧ headOf n + 1 < 4611686018427387904 := by omega
  have r2 : headOf n + 1 - 1 = headOf n := by omega
  simp [encN] at e1 e2
  simp [d_bounds, b_bounds, encN, e2, iosOf, mkIn, putB, rngD, l1, r1, r2, e1, backIn]

/-! ### marks -/
def timesP (k : Ky) : Piece → Option (Int × Int)
  | .times k' v m => if k' = k then some (v, m) else none
  | _ => none
def marksD (n : List Piece) (k : Ky) : IK := (n.filterMap (timesP k)).foldl (fun m p => putI m p.1 p.2) [(0, 0)]
def marksOf (n : List Piece) (k : Ky) : List (Int × Int) := (sortI ((marksD n k).map (·.1))).map fun i => (i, (lookI (marksD n k) i).getD 0)
theorem marksF_len (xs : List (Int × Int)) : ∀ m : IK, (xs.foldl (fun m p => putI m p.1 p.2) m).length ≤ m.length + xs.length := by
  induction xs with
  | nil => intro m; simp
  | cons x xs ih =>
    intro m
    rw [List.foldl_cons]
    have h1 := ih (putI m x.1 x.2)
    have h2 := putI_len m x.1 x.2
    simp; omega
theorem marksD_len (n : List Piece) (k : Ky) : (marksD n k).length ≤ n.length + 1 := by
  have := marksF_len (n.filterMap (timesP k)) [(0, 0)]
  have h2 := List.length_filterMap_le (timesP k) n
  unfold marksD
  simp at this
  omega
theorem encIK0 : ([(NestedKey.num 0, PyData.int 0)] : Kvs) = encIK [(0, 0)] := rfl
theorem e_marks_of (n : List Piece) (k : Ky) (hn : n.length < 63) : d_marks_of [.val (encN n), .val (kd k)] = some (.val (.list ((marksOf n k).map encB)), [.val (encN n), .val (kd k)]) := by
  have s100 := small_line 100 (by decide)
  have s2 : (2 : Nat) ≤ sizeLine := small_line 2 (by decide)
  obtain ⟨p, e1, a, fa, rfl⟩ := ok_loop (g := gNm 3) (m := l1_marks_of) (enc := Piece.enc) (xs := n) (ρ := [.val (encN n), .val (kd k), .own (.dct (encIK [(0, 0)])), .un, .un])
    (Post := fun p => ∃ a, fr a = true ∧ p = (.nx, [.val (encN n), .val (kd k), .own (.dct (encIK (marksD n k))), a, .un]))
    (fun rest ρ => ∃ (dn : List Piece) (a : Sl), dn ++ rest = n ∧ fr a = true ∧ ρ = [.val (encN n), .val (kd k), .own (.dct (encIK (marksD dn k))), a, .un])
    ⟨[], .un, rfl, rfl, rfl⟩ (fun p rest ρ hp ⟨dn, a, hd, fa, e⟩ => by
      subst e
      have hl := marksD_len dn k
      have hl2 : dn.length < 63 := by have := congrArg List.length hd; simp at this; omega
      refine ⟨(.nx, [.val (encN n), .val (kd k), .own (.dct (encIK (marksD (dn ++ [p]) k))), .val p.enc, .un]), ?_, dn ++ [p], _, by simpa using hd, rfl, rfl⟩
      cases q : timesP k p with
      | none =>
        have hm : marksD (dn ++ [p]) k = marksD dn k := by simp [marksD, List.filterMap_append, q]
        rw [hm]
        cases p <;> simp [timesP] at q <;> simp [fa, l1_marks_of, Piece.enc, q]
      | some vm =>
        have hm : marksD (dn ++ [p]) k = putI (marksD dn k) vm.1 vm.2 := by simp [marksD, List.filterMap_append, q]
        rw [hm]
        have hp := putI_len (marksD dn k) vm.1 vm.2
        have hz : (putI (marksD dn k) vm.1 vm.2).length ≤ sizeLine := by omega
        cases p <;> simp [timesP] at q
        obtain ⟨rfl, rfl⟩ := q
        simp [fa, l1_marks_of, Piece.enc, hz, updD])
    (fun ρ ⟨dn, a, hd, fa, e⟩ => ⟨a, fa, by rw [e]; simp at hd; rw [hd]⟩)
  have hc : compD (gNm 4) tYesM c1_marks_of [4] ((sortI ((marksD n k).map (·.1))).map .int) [.val (encN n), .val (kd k), .own (.dct (encIK (marksD n k))), a, .un] = some ((marksOf n k).map encB, [.val (encN n), .val (kd k), .own (.dct (encIK (marksD n k))), a, .un]) := by
    unfold marksOf
    rw [List.map_map]
    refine compD_mp _ fun i hi => ?_
    have hi2 : i ∈ (marksD n k).map (·.1) := (sortI_perm _).mem_iff.mp hi
    cases q : lookI (marksD n k) i with
    | none => exact absurd hi2 (lookI_none.mp q)
    | some w => simp [stepD, c1_marks_of, q, s2, encB]
  have hl := marksD_len n k
  have l64 : (marksD n k).length < 64 := by omega
  simp [encN] at e1 hc
  simp [d_marks_of, b_marks_of, encN, encIK0, e1, nums_encIK, l64, hc, backIn]

/-! ### stretches -/
structure Stretch where
  key : Ky
  first : Int
  last : Int
  least : Int
  most : Int
deriving DecidableEq
def encS (s : Stretch) : PyData := .tuple [kd s.key, .int s.first, .int s.last, .int s.least, .int s.most]
def pairsS (k : Ky) : List (Int × Int) → List Stretch
  | a :: b :: r => ⟨k, a.1 + 1, b.1, b.2 - a.2, b.2 - a.2⟩ :: pairsS k (b :: r)
  | _ => []
def lastM (m : List (Int × Int)) : Int := ((m.getLast?).getD (0, 0)).1
def tailS (k : Ky) (last head : Int) : List Stretch := if last < head then [⟨k, last + 1, head, 0, head - last⟩] else []
def stretchesOf (n : List Piece) (k : Ky) : List Stretch := pairsS k (marksOf n k) ++ tailS k (lastM (marksOf n k)) (headOf n)
def stretchesL (sh : List Ky) (n : List Piece) : List Stretch := sh.flatMap (stretchesOf n)
theorem insI_len (x : Int) (xs : List Int) : (insI x xs).length = xs.length + 1 := (insI_perm x xs).length_eq
theorem sortI_len (xs : List Int) : (sortI xs).length = xs.length := (sortI_perm xs).length_eq
theorem marksOf_len (n : List Piece) (k : Ky) : (marksOf n k).length = (marksD n k).length := by simp [marksOf, sortI_len]
theorem marksD_pos (n : List Piece) (k : Ky) : 0 < (marksD n k).length := by
  have : ∀ (xs : List (Int × Int)) (m : IK), 0 < m.length → 0 < (xs.foldl (fun m p => putI m p.1 p.2) m).length := by
    intro xs
    induction xs with
    | nil => intro m h; exact h
    | cons x xs ih =>
      intro m h
      rw [List.foldl_cons]
      refine ih _ ?_
      have := congrArg List.length (putI_keys m x.1 x.2)
      rw [List.length_map] at this
      rw [this]
      split <;> simp <;> omega
  exact this _ _ (by simp)
theorem pairsS_len (k : Ky) : ∀ m : List (Int × Int), (pairsS k m).length = m.length - 1
  | [] => rfl
  | [_] => rfl
  | a :: b :: r => by
    have := pairsS_len k (b :: r)
    simp only [pairsS, List.length_cons] at this ⊢
    omega
theorem pairsS_get (k : Ky) : ∀ (m : List (Int × Int)) (i : Nat) (a b : Int × Int), m[i]? = some a → m[i + 1]? = some b → (pairsS k m)[i]? = some ⟨k, a.1 + 1, b.1, b.2 - a.2, b.2 - a.2⟩
  | [], i, a, b, h, _ => by simp at h
  | [x], 0, a, b, _, h => by simp at h
  | [x], i + 1, a, b, h, _ => by simp at h
  | x :: y :: r, 0, a, b, h1, h2 => by
    simp at h1 h2
    subst h1 h2
    rfl
  | x :: y :: r, i + 1, a, b, h1, h2 => by
    have := pairsS_get k (y :: r) i a b (by simpa using h1) (by simpa using h2)
    simpa [pairsS] using this
theorem take_succ_get {α : Type} {l : List α} {i : Nat} {x : α} (h : l[i]? = some x) : l.take (i + 1) = l.take i ++ [x] := by
  rw [List.take_succ, h]
  rfl
theorem gIx_neg1 {ds : List PyData} {d : PyData} (h : ds.getLast? = some d) : gIx (.list ds) (.int (-1)) = some d := by
  rw [List.getLast?_eq_getElem?] at h
  have hl := (List.getElem?_eq_some_iff.mp h).1
  show atI ds (-1) = _
  unfold atI ixN
  rw [if_neg (by omega), if_pos (by omega)]
  show ds[_]? = _
  rw [← h]
  congr 1
  omega
theorem e_stretches_of (n : List Piece) (k : Ky) (hn : n.length < 63) : d_stretches_of [.val (encN n), .val (kd k)] = some (.val (.list ((stretchesOf n k).map encS)), [.val (encN n), .val (kd k)]) := by
  have s100 := small_line 100 (by decide)
  have s5 : (5 : Nat) ≤ sizeLine := small_line 5 (by decide)
  have hm := e_marks_of n k hn
  have hh := e_head_of n (by omega)
  have hl := marksD_len n k
  have hp := marksD_pos n k
  rw [← marksOf_len] at hl hp
  have so : stretchesOf n k = pairsS k (marksOf n k) ++ tailS k (lastM (marksOf n k)) (headOf n) := rfl
  obtain ⟨M, hM⟩ : ∃ M, M = marksOf n k := ⟨_, rfl⟩
  rw [← hM] at hm hl hp so
  have hpl := pairsS_len k M
  obtain ⟨p, e1, a, b, fa, fb, rfl⟩ := ok_loop (g := gNm 4) (m := l1_stretches_of) (enc := fun (i : Nat) => .int (1 + i)) (xs := List.range (M.length - 1)) (ρ := [.val (encN n), .val (kd k), .val (.list (M.map encB)), .own (.lst []), .un, .un, .un, .un])
    (Post := fun p => ∃ a b, fr a = true ∧ fr b = true ∧ p = (.nx, [.val (encN n), .val (kd k), .val (.list (M.map encB)), .own (.lst ((pairsS k M).map encS)), a, b, .un, .un]))
    (fun rest ρ => ∃ (i : Nat) (a b : Sl), rest = (List.range (M.length - 1)).drop i ∧ fr a = true ∧ fr b = true ∧ ρ = [.val (encN n), .val (kd k), .val (.list (M.map encB)), .own (.lst (((pairsS k M).take i).map encS)), a, b, .un, .un])
    ⟨0, .un, .un, rfl, rfl, rfl, by simp⟩ (fun j rest ρ hj ⟨i, a, b, hd, fa, fb, e⟩ => by
      subst e
      have hi : i < M.length - 1 := by
        have := congrArg List.length hd
        simp at this
        omega
      have hij : j = i := by
        have := congrArg (·[0]?) hd
        simp [List.getElem?_drop, List.getElem?_range hi] at this
        exact this
      subst hij
      have g1 : M[j]? = some M[j] := List.getElem?_eq_getElem (by omega)
      have g2 : M[j + 1]? = some M[j + 1] := List.getElem?_eq_getElem (by omega)
      have ps := pairsS_get k M j _ _ g1 g2
      have i1 : gIx (.list (M.map encB)) (.int (1 + j)) = some (encB M[j + 1]) := gIx_lst (by omega) (by rw [show (1 + (j : Int)).toNat = j + 1 by omega, List.getElem?_map, g2]; rfl)
      have i2 : gIx (.list (M.map encB)) (.int (1 + j - 1)) = some (encB M[j]) := gIx_lst (by omega) (by rw [show (1 + (j : Int) - 1).toNat = j by omega, List.getElem?_map, g1]; rfl)
      have hsl : min j (pairsS k M).length < sizeLine := by omega
      refine ⟨(.nx, [.val (encN n), .val (kd k), .val (.list (M.map encB)), .own (.lst (((pairsS k M).take (j + 1)).map encS)), .val (.int (1 + j)), .val (.int (M[j + 1].2 - M[j].2)), .un, .un]), ?_, j + 1, _, _, by rw [List.drop_add_one_eq_tail_drop, ← hd]; rfl, rfl, rfl, rfl⟩
      rw [take_succ_get ps]
      simp [fa, l1_stretches_of, i1, i2, encB, fb, s5, hsl, updL, encS])
    (fun ρ ⟨i, a, b, hd, fa, fb, e⟩ => ⟨a, b, fa, fb, by
      have := congrArg List.length hd
      simp at this
      rw [e, List.take_of_length_le (by omega)]⟩)
  have il : gIx (.list (M.map encB)) (.int (-1)) = some (encB ((M.getLast?).getD (0, 0))) := by
    refine gIx_neg1 ?_
    rw [List.getLast?_map]
    cases q : M.getLast? with
    | none => rw [List.getLast?_eq_none_iff] at q; rw [q] at hp; simp at hp
    | some x => rfl
  have l1 : (M.length : Int) - 1 ≤ 16777216 := by omega
  have r1 : -(4611686018427387904 : Int) ≤ M.length ∧ (M.length : Int) < 4611686018427387904 := by omega
  have r2 : ((M.length : Int) - 1).toNat = M.length - 1 := by omega
  have hsl : (pairsS k M).length < sizeLine := by omega
  simp [encN] at e1 hm hh
  rw [so]
  unfold tailS
  have hlast : ((M.getLast?).getD (0, 0)).1 = lastM M := rfl
  by_cases q : lastM M < headOf n
  · simp [d_stretches_of, b_stretches_of, encN, hm, hh, iosOf, mkIn, putB, rngD, l1, r1, r2, e1, fa, fb, il, encB, hlast, q, s5, hsl, updL, backIn, encS]
  · simp [d_stretches_of, b_stretches_of, encN, hm, hh, iosOf, mkIn, putB, rngD, l1, r1, r2, e1, fa, fb, il, encB, hlast, q, backIn]
theorem stretchesOf_len (n : List Piece) (k : Ky) : (stretchesOf n k).length ≤ n.length + 1 := by
  have h1 := marksD_len n k
  rw [← marksOf_len] at h1
  have h2 := pairsS_len k (marksOf n k)
  have hp := marksD_pos n k
  rw [← marksOf_len] at hp
  unfold stretchesOf tailS
  rw [List.length_append]
  split <;> simp <;> omega
theorem stretchesL_len (sh : List Ky) (n : List Piece) : (stretchesL sh n).length ≤ sh.length * (n.length + 1) := by
  induction sh with
  | nil => simp [stretchesL]
  | cons k sh ih =>
    have := stretchesOf_len n k
    unfold stretchesL at ih ⊢
    rw [List.flatMap_cons, List.length_append, List.length_cons, Nat.add_mul]
    omega
theorem e_stretches (sh : List Ky) (n : List Piece) (hn : n.length < 63) (hs : sh.length ≤ 100) : d_stretches [.val (kds sh), .val (encN n)] = some (.val (.list ((stretchesL sh n).map encS)), [.val (kds sh), .val (encN n)]) := by
  have hc : comp2D (gNm 2) tYesM i1_stretches (gNm 3) tYesM (mV (dVar 3)) [2, 3] [3] (sh.map kd) [.val (kds sh), .val (encN n), .un, .un] = some ((stretchesL sh n).map encS, [.val (kds sh), .val (encN n), .un, .un]) :=
    comp2_fm _ fun k hk => by
      have es := e_stretches_of n k hn
      have hc : compD (gNm 3) tYesM (mV (dVar 3)) [3] ((stretchesOf n k).map encS) [.val (kds sh), .val (encN n), .val (kd k), .un] = some ((stretchesOf n k).map encS, [.val (kds sh), .val (encN n), .val (kd k), .un]) := compD_mp _ fun s _ => by simp [stepD]
      exact ⟨[.val (kds sh), .val (encN n), .val (kd k), .un], by simp, by simp, (stretchesOf n k).map encS, [.val (kds sh), .val (encN n), .val (kd k), .un], [.val (kds sh), .val (encN n), .val (kd k), .un], by simp [i1_stretches, es, iosOf, mkIn, putB], by simp, hc, by simp⟩
  have hl := stretchesL_len sh n
  have h3 : sh.length * (n.length + 1) ≤ 100 * 63 := Nat.mul_le_mul hs (by omega)
  have hz : (stretchesL sh n).length ≤ sizeLine := by rw [sizeLine_eq]; omega
  simp [d_stretches, b_stretches, hc, hz, backIn]
end Vw
/-! Vb3: papers.py: cells, is_right. -/
namespace Vw
open PySem PySem.Spec L2 Vx

def inS (s : Stretch) (v : Int) : Bool := decide (s.first ≤ v) && decide (v ≤ s.last)
def cellsOf (vs : List Int) (ps : List Stretch) : List (Int × Ky) := ps.flatMap fun s => (vs.filter (inS s)).map fun v => (v, s.key)
def encVK (p : Int × Ky) : PyData := .tuple [.int p.1, kd p.2]
theorem e_cells (V : PyData) (vs : List Int) (ps : List Stretch) (hV : seqOf V = some (vs.map .int)) (hl : vs.length * ps.length ≤ 10000) : d_cells [.val V, .val (.list (ps.map encS))] = some (.val (.list ((cellsOf vs ps).map encVK)), [.val V, .val (.list (ps.map encS))]) := by
  have s2 : (2 : Nat) ≤ sizeLine := small_line 2 (by decide)
  have len : ∀ ps : List Stretch, (cellsOf vs ps).length ≤ vs.length * ps.length := by
    intro ps
    induction ps with
    | nil => simp [cellsOf]
    | cons s ps ih =>
      unfold cellsOf at ih ⊢
      rw [List.flatMap_cons, List.length_append, List.length_cons, Nat.mul_add]
      have := List.length_filter_le (inS s) vs
      rw [List.length_map]
      omega
  have inner : ∀ (s : Stretch) (acc : List (Int × Ky)) (a : Sl), fr a = true → acc.length + vs.length ≤ 10000 → Ok (loopD (gNm 4) l1_cells (vs.map .int) [.val V, .val (.list (ps.map encS)), .own (.lst (acc.map encVK)), .val (encS s), a]) fun p => ∃ a, fr a = true ∧ p = (.nx, [.val V, .val (.list (ps.map encS)), .own (.lst ((acc ++ (vs.filter (inS s)).map fun v => (v, s.key)).map encVK)), .val (encS s), a]) := fun s acc a fa hl =>
    ok_loop (fun rest ρ => ∃ (dn : List Int) (a : Sl), dn ++ rest = vs ∧ fr a = true ∧ ρ = [.val V, .val (.list (ps.map encS)), .own (.lst ((acc ++ (dn.filter (inS s)).map fun v => (v, s.key)).map encVK)), .val (encS s), a])
      ⟨[], a, rfl, fa, by simp⟩ (fun v rest ρ hv ⟨dn, a, hd, fa, e⟩ => by
        subst e
        have h1 : dn.length < vs.length := by have := congrArg List.length hd; simp at this; omega
        have h2 := List.length_filter_le (inS s) dn
        have hs : acc.length + (dn.filter (inS s)).length < sizeLine := by rw [sizeLine_eq]; omega
        refine ⟨(.nx, [.val V, .val (.list (ps.map encS)), .own (.lst ((acc ++ ((dn ++ [v]).filter (inS s)).map fun v => (v, s.key)).map encVK)), .val (encS s), .val (.int v)]), ?_, dn ++ [v], _, by simpa using hd, rfl, rfl⟩
        rw [List.filter_append]
        by_cases q1 : s.first ≤ v
        · by_cases q2 : v ≤ s.last
          · have qi : inS s v = true := by simp [inS, q1, q2]
            simp [fa, l1_cells, encS, q1, q2, qi, s2, hs, updL, encVK]
          · have qi : inS s v = false := by simp [inS, q1, q2]
            simp [fa, l1_cells, encS, q1, q2, qi]
        · have qi : inS s v = false := by simp [inS, q1]
          simp [fa, l1_cells, encS, q1, qi])
      (fun ρ ⟨dn, a, hd, fa, e⟩ => ⟨a, fa, by rw [e]; simp at hd; rw [hd]⟩)
  obtain ⟨p, e1, a, b, rfl⟩ := ok_loop (g := gNm 3) (m := l2_cells) (enc := encS) (xs := ps) (ρ := [.val V, .val (.list (ps.map encS)), .own (.lst []), .un, .un])
    (Post := fun p => ∃ a b, p = (.nx, [.val V, .val (.list (ps.map encS)), .own (.lst ((cellsOf vs ps).map encVK)), a, b]))
    (fun rest ρ => ∃ (dn : List Stretch) (a b : Sl), dn ++ rest = ps ∧ fr a = true ∧ fr b = true ∧ ρ = [.val V, .val (.list (ps.map encS)), .own (.lst ((cellsOf vs dn).map encVK)), a, b])
    ⟨[], .un, .un, rfl, rfl, rfl, rfl⟩ (fun s rest ρ hs ⟨dn, a, b, hd, fa, fb, e⟩ => by
      subst e
      have h1 : dn.length + 1 ≤ ps.length := by have := congrArg List.length hd; simp at this; omega
      have h2 := len dn
      have h3 : vs.length * (dn.length + 1) ≤ vs.length * ps.length := Nat.mul_le_mul (Nat.le_refl _) h1
      rw [Nat.mul_add] at h3
      obtain ⟨p, e, b', fb', rfl⟩ := inner s (cellsOf vs dn) b fb (by omega)
      refine ⟨(.nx, [.val V, .val (.list (ps.map encS)), .own (.lst ((cellsOf vs (dn ++ [s])).map encVK)), .val (encS s), b']), ?_, dn ++ [s], .val (encS s), b', by simpa using hd, rfl, fb', rfl⟩
      simp at e
      have hc : cellsOf vs (dn ++ [s]) = cellsOf vs dn ++ (vs.filter (inS s)).map fun v => (v, s.key) := by simp [cellsOf]
      simp [fa, l2_cells, hV, hc, e])
    (fun ρ ⟨dn, a, b, hd, fa, fb, e⟩ => ⟨a, b, by rw [e]; simp at hd; rw [hd]⟩)
  have s0 : (0 : Nat) ≤ sizeLine := Nat.zero_le _
  simp [d_cells, b_cells, e1, backIn]
theorem cellsOf_len (vs : List Int) (ps : List Stretch) : (cellsOf vs ps).length ≤ vs.length * ps.length := by
  induction ps with
  | nil => simp [cellsOf]
  | cons s ps ih =>
    unfold cellsOf at ih ⊢
    rw [List.flatMap_cons, List.length_append, List.length_cons, Nat.mul_add]
    have := List.length_filter_le (inS s) vs
    rw [List.length_map]
    omega
theorem cellS_cases (n : List Piece) (v : Int) (k : Ky) : cellS n v k = "shut" ∨ cellS n v k = "due" ∨ cellS n v k = "free" := by
  unfold cellS
  split
  · exact .inl rfl
  · split
    · exact .inr (.inl rfl)
    · exact .inr (.inr rfl)
def dueC (n : List Piece) (p : Int × Ky) : Bool := !isShut n p.1 p.2 && isDue n p.1 p.2
def openC (n : List Piece) (p : Int × Ky) : Bool := !isShut n p.1 p.2
theorem in_due (n : List Piece) (p : Int × Ky) : gIn (.str (cellS n p.1 p.2)) (.tuple [.str "due"]) = some (.bool (dueC n p)) := by
  unfold cellS dueC
  cases isShut n p.1 p.2 <;> cases isDue n p.1 p.2 <;> kernel_rfl
theorem in_open (n : List Piece) (p : Int × Ky) : gIn (.str (cellS n p.1 p.2)) (.tuple [.str "due", .str "free"]) = some (.bool (openC n p)) := by
  unfold cellS openC
  cases isShut n p.1 p.2 <;> cases isDue n p.1 p.2 <;> kernel_rfl
theorem e_count (n : List Piece) (ps : List (Int × Ky)) (S : PyData) (c : Int × Ky → Bool) (hS : ∀ p, gIn (.str (cellS n p.1 p.2)) S = some (.bool (c p))) : d_count_cells [.val (encN n), .val (.list (ps.map encVK)), .val S] = some (.val (.int (ps.filter c).length), [.val (encN n), .val (.list (ps.map encVK)), .val S]) := by
  have hc : compD (gNm 3) t1_count_cells (mV (dVar 3)) [3] (ps.map encVK) [.val (encN n), .val (.list (ps.map encVK)), .val S, .un] = some ((ps.filter c).map encVK, [.val (encN n), .val (.list (ps.map encVK)), .val S, .un]) :=
    comp_fm c encVK fun p hp => by
      have ec := e_cell n p.1 p.2
      have hs := hS p
      cases q : c p <;> rw [q] at hs <;> simp [stepD, t1_count_cells, encVK, ec, iosOf, mkIn, putB, hs]
  simp [d_count_cells, b_count_cells, hc, backIn]

/-! ### is_right -/
abbrev Tri := Ky × Int × Int
def encT (t : Tri) : PyData := .tuple [kd t.1, .int t.2.1, .int t.2.2]
def triS (s : Stretch) : Tri := (s.key, s.first, s.last)
structure Paper where
  full : Bool
  vers : List Int
  named : List Tri
def kindS (b : Bool) : Str := if b = true then "full" else "empty"
def encPaper (p : Paper) : PyData := .tuple [.str (kindS p.full), .tuple (p.vers.map .int), .tuple (p.named.map encT)]
def versL (n : List Piece) : List Int := (List.range (headOf n).toNat).map fun (i : Nat) => 1 + (i : Int)
def countD (n : List Piece) (c : Int × Ky → Bool) (vs : List Int) (ps : List Stretch) : Int := ((cellsOf vs ps).filter c).length
def isRight (sh : List Ky) (n : List Piece) (p : Paper) : Bool :=
  let others := (versL n).filter fun v => !decide (v ∈ p.vers)
  let inside := (stretchesL sh n).filter fun s => decide (triS s ∈ p.named)
  let outside := (stretchesL sh n).filter fun s => !decide (triS s ∈ p.named)
  if p.full = true then decide ((inside.map (·.most)).sum + countD n (openC n) p.vers outside < (p.vers.map fun v => (boundsAt sh n v).1).sum + countD n (dueC n) others inside)
  else decide ((p.vers.map fun v => (boundsAt sh n v).2).sum + countD n (openC n) others inside < (inside.map (·.least)).sum + countD n (dueC n) p.vers outside)
theorem encT_inj {a b : Tri} (h : encT a = encT b) : a = b := by
  obtain ⟨a1, a2, a3⟩ := a
  obtain ⟨b1, b2, b3⟩ := b
  simp only [encT, PyData.tuple.injEq, List.cons.injEq, PyData.int.injEq, and_true] at h
  obtain ⟨h1, h2, h3⟩ := h
  rw [kd_inj.mp h1, h2, h3]
theorem pl_encT (t : Tri) : Vx.plain 1 (encT t) = true := by simp [encT, Vx.plain, t.1.ok]
theorem gIn_T (t : Tri) (ts : List Tri) : gIn (encT t) (.tuple (ts.map encT)) = some (.bool (decide (t ∈ ts))) :=
  gIn_tuple (pl_encT t) (fun x hx => by obtain ⟨y, _, rfl⟩ := List.mem_map.mp hx; exact pl_encT y) (mem_map_inj fun _ _ h => encT_inj h)
theorem gNotIn_T (t : Tri) (ts : List Tri) : gNotIn (encT t) (.tuple (ts.map encT)) = some (.bool (!decide (t ∈ ts))) :=
  gNotIn_t (pl_encT t) (fun x hx => by obtain ⟨y, _, rfl⟩ := List.mem_map.mp hx; exact pl_encT y) (mem_map_inj fun _ _ h => encT_inj h)
theorem gNotIn_I (i : Int) (is : List Int) : gNotIn (.int i) (.tuple (is.map .int)) = some (.bool (!decide (i ∈ is))) :=
  gNotIn_t (n := 0) rfl (fun x hx => by obtain ⟨y, _, rfl⟩ := List.mem_map.mp hx; rfl) (mem_map_inj fun _ _ h => by cases h; rfl)
theorem gIn_I (i : Int) (is : List Int) : gIn (.int i) (.tuple (is.map .int)) = some (.bool (decide (i ∈ is))) :=
  gIn_tuple (n := 0) rfl (fun x hx => by obtain ⟨y, _, rfl⟩ := List.mem_map.mp hx; rfl) (mem_map_inj fun _ _ h => by cases h; rfl)
theorem gSl_S (s : Stretch) : gSl (encS s) none (some 3) = some (encT (triS s)) := rfl
theorem ix_S3 (s : Stretch) : gIx (encS s) (.int 3) = some (.int s.least) := gIx_tup (by decide) rfl
theorem ix_S4 (s : Stretch) : gIx (encS s) (.int 4) = some (.int s.most) := gIx_tup (by decide) rfl
theorem boundsL_get {sh : List Ky} {n : List Piece} {v : Int} (h1 : 1 ≤ v) (h2 : v ≤ headOf n) : gIx (.list ((boundsL sh n).map encB)) (.int (v - 1)) = some (encB (boundsAt sh n v)) := by
  refine gIx_lst (by omega) ?_
  unfold boundsL
  rw [List.getElem?_map, List.getElem?_map, List.getElem?_range (by omega)]
  show some (encB (boundsAt sh n (1 + ((v - 1).toNat : Int)))) = _
  rw [show 1 + ((v - 1).toNat : Int) = v by omega]
theorem e_is_right (sh : List Ky) (n : List Piece) (p : Paper) (hn : n.length < 63) (hh : headOf n ≤ 100) (hs : sh.length ≤ 6) (hv : ∀ v ∈ p.vers, 1 ≤ v ∧ v ≤ headOf n) (hl : p.vers.length ≤ 20) (hh2 : headOf n ≤ 20) :
    d_is_right [.val (kds sh), .val (encN n), .val (encPaper p)] = some (.val (.bool (isRight sh n p)), [.val (kds sh), .val (encN n), .val (encPaper p)]) := by
  obtain ⟨full, vers, named⟩ := p
  have h0 := headOf_nn n
  have hl : vers.length ≤ 20 := hl
  have hv : ∀ v ∈ vers, 1 ≤ v ∧ v ≤ headOf n := hv
  have s1 : (1 : Nat) ≤ sizeLine := small_line 1 (by decide)
  have s2 : (2 : Nat) ≤ sizeLine := small_line 2 (by decide)
  have eb := e_bounds sh n (by rw [sizeLine_eq]; omega) hh
  have es := e_stretches sh n hn (by omega)
  have hsl := stretchesL_len sh n
  have hsl2 : sh.length * (n.length + 1) ≤ 6 * 63 := Nat.mul_le_mul hs (by omega)
  have isr : isRight sh n ⟨full, vers, named⟩ = isRight sh n ⟨full, vers, named⟩ := rfl
  conv at isr => rhs; unfold isRight
  have bl : (boundsL sh n).length = (headOf n).toNat := by simp [boundsL]
  have bg := @boundsL_get sh n
  obtain ⟨S, hS⟩ : ∃ S, S = stretchesL sh n := ⟨_, rfl⟩
  obtain ⟨B, hB⟩ : ∃ B, B = (boundsL sh n).map encB := ⟨_, rfl⟩
  obtain ⟨N, hN⟩ : ∃ N, N = encN n := ⟨_, rfl⟩
  obtain ⟨A, hA⟩ : ∃ A, A = kds sh := ⟨_, rfl⟩
  obtain ⟨V, hV⟩ : ∃ V, V = PyData.tuple (vers.map .int) := ⟨_, rfl⟩
  obtain ⟨M, hM⟩ : ∃ M, M = PyData.tuple (named.map encT) := ⟨_, rfl⟩
  obtain ⟨P, hP⟩ : ∃ P, P = PyData.tuple [.str (kindS full), V, M] := ⟨_, rfl⟩
  have hPe : encPaper ⟨full, vers, named⟩ = P := by rw [hP, hV, hM]; rfl
  have hBl : B.length = (headOf n).toNat := by rw [hB, List.length_map, bl]
  rw [← hB] at eb bg
  rw [← hS] at es isr hsl
  rw [← hN, ← hA] at es eb
  rw [← hN, ← hA, hPe]
  obtain ⟨others, ho⟩ : ∃ o, o = (versL n).filter fun v => !decide (v ∈ vers) := ⟨_, rfl⟩
  obtain ⟨ins, hi⟩ : ∃ o, o = S.filter fun s => decide (triS s ∈ named) := ⟨_, rfl⟩
  obtain ⟨out, hu⟩ : ∃ o, o = S.filter fun s => !decide (triS s ∈ named) := ⟨_, rfl⟩
  simp only [← ho, ← hi, ← hu] at isr
  have hol : others.length ≤ 20 := by
    have := List.length_filter_le (fun v => !decide (v ∈ vers)) (versL n)
    rw [← ho] at this
    simp [versL] at this
    omega
  have hil : ins.length ≤ 378 := by have := List.length_filter_le (fun s => decide (triS s ∈ named)) S; rw [← hi] at this; omega
  have hul : out.length ≤ 378 := by have := List.length_filter_le (fun s => !decide (triS s ∈ named)) S; rw [← hu] at this; omega
  have cl1 := e_cells (.list (others.map .int)) others ins rfl (by have := Nat.mul_le_mul hol hil; omega)
  have cl2 := e_cells V vers out (by rw [hV]; rfl) (by have := Nat.mul_le_mul hl hul; omega)
  have cn : ∀ (ps : List (Int × Ky)) (Q : PyData) (c : Int × Ky → Bool), (∀ p, gIn (.str (cellS n p.1 p.2)) Q = some (.bool (c p))) → d_count_cells [.val N, .val (.list (ps.map encVK)), .val Q] = some (.val (.int (ps.filter c).length), [.val N, .val (.list (ps.map encVK)), .val Q]) := fun ps Q c h => by rw [hN]; exact e_count n ps Q c h
  have cd := fun ps => cn ps _ _ (in_due n)
  have co := fun ps => cn ps _ _ (in_open n)
  have hrg : rngD 1 (headOf n).toNat = (versL n).map .int := by simp [rngD, versL]
  have c1 : compD (gNm 8) t1_is_right (mV (dVar 8)) [8] ((versL n).map .int) [.val A, .val N, .val P, .val (.str (kindS full)), .val V, .val M, .val (.list B), .un, .un, .un, .un, .un, .un, .un, .un] = some (others.map .int, [.val A, .val N, .val P, .val (.str (kindS full)), .val V, .val M, .val (.list B), .un, .un, .un, .un, .un, .un, .un, .un]) := by
    rw [ho]
    refine comp_fm _ _ fun v hv => ?_
    have g := gNotIn_I v vers
    rw [← hV] at g
    cases q : decide (v ∈ vers) <;> rw [q] at g <;> simp [stepD, t1_is_right, g]
  have c2 : ∀ (O : Sl), compD (gNm 11) t2_is_right (mV (dVar 11)) [11] (S.map encS) [.val A, .val N, .val P, .val (.str (kindS full)), .val V, .val M, .val (.list B), O, .un, .val (.list (S.map encS)), .un, .un, .un, .un, .un] = some (ins.map encS, [.val A, .val N, .val P, .val (.str (kindS full)), .val V, .val M, .val (.list B), O, .un, .val (.list (S.map encS)), .un, .un, .un, .un, .un]) := fun O => by
    rw [hi]
    refine comp_fm _ _ fun s hs => ?_
    have g := gIn_T (triS s) named
    rw [← hM] at g
    cases q : decide (triS s ∈ named) <;> rw [q] at g <;> simp [stepD, t2_is_right, gSl_S, g]
  have c3 : ∀ (O I : Sl), compD (gNm 11) t3_is_right (mV (dVar 11)) [11] (S.map encS) [.val A, .val N, .val P, .val (.str (kindS full)), .val V, .val M, .val (.list B), O, .un, .val (.list (S.map encS)), I, .un, .un, .un, .un] = some (out.map encS, [.val A, .val N, .val P, .val (.str (kindS full)), .val V, .val M, .val (.list B), O, .un, .val (.list (S.map encS)), I, .un, .un, .un, .un]) := fun O I => by
    rw [hu]
    refine comp_fm _ _ fun s hs => ?_
    have g := gNotIn_T (triS s) named
    rw [← hM] at g
    cases q : decide (triS s ∈ named) <;> rw [q] at g <;> simp [stepD, t3_is_right, gSl_S, g]
  have c4 : ∀ (O I U Nd : Sl), compD (gNm 8) tYesM c1_is_right [8] (vers.map .int) [.val A, .val N, .val P, .val (.str (kindS full)), .val V, .val M, .val (.list B), O, .un, .val (.list (S.map encS)), I, .un, U, Nd, .un] = some ((vers.map fun v => (boundsAt sh n v).1).map .int, [.val A, .val N, .val P, .val (.str (kindS full)), .val V, .val M, .val (.list B), O, .un, .val (.list (S.map encS)), I, .un, U, Nd, .un]) := fun O I U Nd => by
    rw [List.map_map]
    refine compD_mp _ fun v h => ?_
    have g := bg (hv v h).1 (hv v h).2
    simp [stepD, c1_is_right, g, encB]
  have c5 : ∀ (O U Nd : Sl), compD (gNm 11) tYesM c2_is_right [11] (ins.map encS) [.val A, .val N, .val P, .val (.str (kindS full)), .val V, .val M, .val (.list B), O, .un, .val (.list (S.map encS)), .val (.list (ins.map encS)), .un, U, Nd, .un] = some ((ins.map (·.most)).map .int, [.val A, .val N, .val P, .val (.str (kindS full)), .val V, .val M, .val (.list B), O, .un, .val (.list (S.map encS)), .val (.list (ins.map encS)), .un, U, Nd, .un]) := fun O U Nd => by
    rw [List.map_map]
    refine compD_mp _ fun s h => ?_
    simp [stepD, c2_is_right, ix_S4]
  have c6 : ∀ (O U Nd : Sl), compD (gNm 11) tYesM c3_is_right [11] (ins.map encS) [.val A, .val N, .val P, .val (.str (kindS full)), .val V, .val M, .val (.list B), O, .un, .val (.list (S.map encS)), .val (.list (ins.map encS)), .un, U, Nd, .un] = some ((ins.map (·.least)).map .int, [.val A, .val N, .val P, .val (.str (kindS full)), .val V, .val M, .val (.list B), O, .un, .val (.list (S.map encS)), .val (.list (ins.map encS)), .un, U, Nd, .un]) := fun O U Nd => by
    rw [List.map_map]
    refine compD_mp _ fun s h => ?_
    simp [stepD, c3_is_right, ix_S3]
  have c7 : ∀ (O I U Nd : Sl), compD (gNm 8) tYesM c4_is_right [8] (vers.map .int) [.val A, .val N, .val P, .val (.str (kindS full)), .val V, .val M, .val (.list B), O, .un, .val (.list (S.map encS)), I, .un, U, Nd, .un] = some ((vers.map fun v => (boundsAt sh n v).2).map .int, [.val A, .val N, .val P, .val (.str (kindS full)), .val V, .val M, .val (.list B), O, .un, .val (.list (S.map encS)), I, .un, U, Nd, .un]) := fun O I U Nd => by
    rw [List.map_map]
    refine compD_mp _ fun v h => ?_
    have g := bg (hv v h).1 (hv v h).2
    simp [stepD, c4_is_right, g, encB]
  have l1 : (headOf n) ≤ 16777216 := by omega
  have r1 : -(4611686018427387904 : Int) ≤ headOf n + 1 ∧ headOf n + 1 < 4611686018427387904 := by omega
  have r2 : ((headOf n).toNat : Int) = headOf n := by omega
  have iv : ∀ (ds : List PyData), seqOf (.tuple ds) = some ds := fun _ => rfl
  have hVs : seqOf V = some (vers.map .int) := by rw [hV]; rfl
  have sum1 := gSum_map (vers.map fun v => (boundsAt sh n v).1)
  have sum2 := gSum_map (ins.map (·.most))
  have sum3 := gSum_map (ins.map (·.least))
  have sum4 := gSum_map (vers.map fun v => (boundsAt sh n v).2)
  obtain ⟨D1, hD1⟩ : ∃ D, D = (vers.map fun v => (boundsAt sh n v).1).map PyData.int := ⟨_, rfl⟩
  obtain ⟨D2, hD2⟩ : ∃ D, D = (ins.map (·.most)).map PyData.int := ⟨_, rfl⟩
  obtain ⟨D3, hD3⟩ : ∃ D, D = (ins.map (·.least)).map PyData.int := ⟨_, rfl⟩
  obtain ⟨D4, hD4⟩ : ∃ D, D = (vers.map fun v => (boundsAt sh n v).2).map PyData.int := ⟨_, rfl⟩
  obtain ⟨D5, hD5⟩ : ∃ D, D = others.map PyData.int := ⟨_, rfl⟩
  obtain ⟨D6, hD6⟩ : ∃ D, D = (versL n).map PyData.int := ⟨_, rfl⟩
  obtain ⟨D7, hD7⟩ : ∃ D, D = ins.map encS := ⟨_, rfl⟩
  obtain ⟨D8, hD8⟩ : ∃ D, D = out.map encS := ⟨_, rfl⟩
  obtain ⟨D9, hD9⟩ : ∃ D, D = S.map encS := ⟨_, rfl⟩
  obtain ⟨D0, hD0⟩ : ∃ D, D = vers.map PyData.int := ⟨_, rfl⟩
  rw [← hD1] at c4 sum1
  rw [← hD2] at c5 sum2
  rw [← hD3] at c6 sum3
  rw [← hD4] at c7 sum4
  rw [← hD5] at c1 cl1
  rw [← hD6] at c1 hrg
  simp only [← hD7, ← hD8, ← hD9, ← hD0] at c1 c2 c3 c4 c5 c6 c7 cl1 cl2 es hVs
  have ck : ∀ Z : Int × Ky → Bool, ∀ a b, ((((cellsOf a b).filter Z).length : Nat) : Int) = countD n Z a b := fun _ _ _ => rfl
  cases full with
  | true =>
    simp only [kindS, if_true] at c1 c2 c3 c4 c5 hP
    have hpp : ∀ ds, P = .tuple ds → ds = [.str "full", V, M] := fun ds h => by rw [hP] at h; cases h; rfl
    have gp : gTp [gNm 3, gNm 4, gNm 5] P [.val A, .val N, .val P, .un, .un, .un, .un, .un, .un, .un, .un, .un, .un, .un, .un] = some [.val A, .val N, .val P, .val (.str "full"), .val V, .val M, .un, .un, .un, .un, .un, .un, .un, .un, .un] := by
      conv => lhs; arg 2; rw [hP]
      simp
    have ge : gEq (.str "full") (.str "full") = some (.bool true) := by kernel_rfl
    simp only [if_true] at isr
    simp [d_is_right, b_is_right, gp, eb, es, iosOf, mkIn, putB, hBl, r2, l1, r1, hrg, c1, c2, c3, ge, hVs, c4, c5, sum1, sum2, cl1, cl2, cd, co, s1, s2, isr, ck, backIn]
  | false =>
    simp only [kindS, Bool.false_eq_true, if_false] at c1 c2 c3 c6 c7 hP
    have gp : gTp [gNm 3, gNm 4, gNm 5] P [.val A, .val N, .val P, .un, .un, .un, .un, .un, .un, .un, .un, .un, .un, .un, .un] = some [.val A, .val N, .val P, .val (.str "empty"), .val V, .val M, .un, .un, .un, .un, .un, .un, .un, .un, .un] := by
      conv => lhs; arg 2; rw [hP]
      simp
    have ge : gEq (.str "empty") (.str "full") = some (.bool false) := by kernel_rfl
    simp only [Bool.false_eq_true, if_false] at isr
    simp [d_is_right, b_is_right, gp, eb, es, iosOf, mkIn, putB, hBl, r2, l1, r1, hrg, c1, c2, c3, ge, hVs, c6, c7, sum3, sum4, cl1, cl2, cd, co, s1, s2, isr, ck, backIn]
end Vw
/-! Va1: the laws' own helpers: draws, _law_same. -/
namespace Vw
open PySem PySem.Spec L2 Vx

theorem e_draw (s : List Int) : d__law_draw [.val (.list (s.map .int))] = some (.own (.lst (drawD s 0 0 17)), [.val (.list (s.map .int))]) := by
  have s4 : (4 : Nat) ≤ sizeLine := small_line 4 (by decide)
  simp [d__law_draw, b__law_draw, s4, backIn]
theorem e_next {o : List PyData} (h : DrawOk o) {m : Int} (h1 : 1 ≤ m) (h2 : m < 1073741824) : ∃ (r : Int) (o' : List PyData), 0 ≤ r ∧ r < m ∧ DrawOk o' ∧ d__law_next [.io (.lst o), .val (.int m)] = some (.val (.int r), [.io (.lst o'), .val (.int m)]) := by
  obtain ⟨s, a, b, c, rfl, hb⟩ := h
  have m0 : 0 < m := by omega
  have rm : ∀ x : Int, 0 ≤ x % m ∧ x % m < m := fun x => ⟨Int.emod_nonneg _ (by omega), Int.emod_lt_of_pos _ m0⟩
  by_cases hb0 : 0 < b
  · refine ⟨b % m, drawD s a (b / m) c, (rm b).1, (rm b).2, ⟨s, a, _, _, rfl, Int.ediv_nonneg hb (by omega)⟩, ?_⟩
    simp [d__law_next, b__law_next, hb0, m0, h2, updL, ixN, backIn]
  · by_cases ha : a < s.length
    · have ix : gIx (.list (s.map PyData.int)) (.int a) = some (.int s[a]) := gIx_lst (by omega) (by rw [Int.toNat_natCast, List.getElem?_map, List.getElem?_eq_getElem ha]; rfl)
      have ha' : (a : Int) < s.length := by omega
      by_cases hc : (1000000000000000000 : Int) ≤ (if s[a] < 0 then -s[a] else s[a])
      · refine ⟨(if s[a] < 0 then -s[a] else s[a]) % m, drawD s (a + 1) ((if s[a] < 0 then -s[a] else s[a]) / m) c, (rm _).1, (rm _).2, ⟨s, a + 1, _, _, rfl, Int.ediv_nonneg (by omega) (by omega)⟩, ?_⟩
        simp [d__law_next, b__law_next, hb0, m0, h2, updL, ixN, backIn, ix, ha', hc]
      · refine ⟨((c * 48271 + (if s[a] < 0 then -s[a] else s[a]) + 11) % 2147483647) * 69621 % 2147483629 / 7 % m, drawD s (a + 1) b ((c * 48271 + (if s[a] < 0 then -s[a] else s[a]) + 11) % 2147483647), (rm _).1, (rm _).2, ⟨s, a + 1, _, _, rfl, hb⟩, ?_⟩
        simp [d__law_next, b__law_next, hb0, m0, h2, updL, ixN, backIn, ix, ha', hc]
    · have ha' : ¬ (a : Int) < s.length := by omega
      refine ⟨((c * 48271 + 12345) % 2147483647) * 69621 % 2147483629 / 7 % m, drawD s a b ((c * 48271 + 12345) % 2147483647), (rm _).1, (rm _).2, ⟨s, a, _, _, rfl, hb⟩, ?_⟩
      simp [d__law_next, b__law_next, hb0, m0, h2, updL, ixN, backIn, ha']

theorem e_same : ∀ (n : Nat) (d : PyData), selfOk n d = true → d__law_same (n + 1) [.val d, .val d] = some (.val (.bool true), [.val d, .val d])
  | n, .none, _ => by simp [d__law_same, b__law_same, backIn]
  | n, .bool b, _ => by simp [d__law_same, b__law_same, backIn]
  | n, .int i, _ => by simp [d__law_same, b__law_same, backIn]
  | n, .str x, h => by
    have h : PyData.strOk x = true := by cases n <;> exact h
    simp [d__law_same, b__law_same, backIn, gEq_self h]
  | n, .dict _, h => by cases n <;> cases h
  | 0, .list ds, h => by cases h
  | 0, .tuple ds, h => by cases h
  | n + 1, .list ds, h => by
    have h : (decide (ds.length ≤ 16777216) && ds.all (selfOk n)) = true := h
    rw [Bool.and_eq_true, List.all_eq_true] at h
    have hl := of_decide_eq_true h.1
    have cm : compD (gNm 2) tYesM (dCl (d__law_same (n + 1)) (aVal (mV (dBin gIx (dVar 0) (dVar 2))) (aVal (mV (dBin gIx (dVar 1) (dVar 2))) (aNil)))) [2] ((List.range ds.length).map fun (i : Nat) => .int (0 + i)) [.val (.list ds), .val (.list ds), .un] = some ((List.range ds.length).map fun _ => .bool true, [.val (.list ds), .val (.list ds), .un]) :=
      compD_mp _ fun i hi => by
        have hi : i < ds.length := by simpa using hi
        have ix : gIx (.list ds) (.int i) = some ds[i] := gIx_lst (by omega) (by rw [Int.toNat_natCast, List.getElem?_eq_getElem hi])
        have ih := e_same n ds[i] (h.2 _ (by simp))
        simp [stepD, ix, ih, iosOf, mkIn, putB]
    have ga := gAll_map (fun (_ : Nat) => true) (List.range ds.length)
    have l1 : ((ds.length : Int) ≤ 16777216 ∧ -(4611686018427387904 : Int) ≤ ds.length) := ⟨by omega, by omega⟩
    rw [d__law_same]
    simp only [Int.zero_add] at cm
    simp [b__law_same, backIn, rngD, l1.1, l1.2, cm] at ga ⊢
    simp [ga]
  | n + 1, .tuple ds, h => by
    have h : (decide (ds.length ≤ 16777216) && ds.all (selfOk n)) = true := h
    rw [Bool.and_eq_true, List.all_eq_true] at h
    have hl := of_decide_eq_true h.1
    have cm : compD (gNm 2) tYesM (dCl (d__law_same (n + 1)) (aVal (mV (dBin gIx (dVar 0) (dVar 2))) (aVal (mV (dBin gIx (dVar 1) (dVar 2))) (aNil)))) [2] ((List.range ds.length).map fun (i : Nat) => .int (0 + i)) [.val (.tuple ds), .val (.tuple ds), .un] = some ((List.range ds.length).map fun _ => .bool true, [.val (.tuple ds), .val (.tuple ds), .un]) :=
      compD_mp _ fun i hi => by
        have hi : i < ds.length := by simpa using hi
        have ix : gIx (.tuple ds) (.int i) = some ds[i] := gIx_tup (by omega) (by rw [Int.toNat_natCast, List.getElem?_eq_getElem hi])
        have ih := e_same n ds[i] (h.2 _ (by simp))
        simp [stepD, ix, ih, iosOf, mkIn, putB]
    have ga := gAll_map (fun (_ : Nat) => true) (List.range ds.length)
    have l1 : ((ds.length : Int) ≤ 16777216 ∧ -(4611686018427387904 : Int) ≤ ds.length) := ⟨by omega, by omega⟩
    rw [d__law_same]
    simp only [Int.zero_add] at cm
    simp [b__law_same, backIn, rngD, l1.1, l1.2, cm] at ga ⊢
    simp [ga]
theorem e_same8 {d : PyData} (h : selfOk 7 d = true) : d__law_same 8 [.val d, .val d] = some (.val (.bool true), [.val d, .val d]) := e_same 7 d h
end Vw
/-! Va2: the helpers of the first laws: shelves, histories, values. -/
namespace Vw
open PySem PySem.Spec L2 Vx

def kA : Ky := ⟨"a", by decide +kernel⟩
def kAB : Ky := ⟨"ab", by decide +kernel⟩
def kB : Ky := ⟨"b", by decide +kernel⟩
def kC : Ky := ⟨"c", by decide +kernel⟩
def shelvesA : List (List Ky) := [[kA], [kA, kB], [kA, kB, kC], [kA, kAB, kB], [kB, kC]]
theorem shelvesA_good : ∀ sh ∈ shelvesA, sh.Nodup ∧ sh ≠ [] ∧ sh.length ≤ 3 := by decide +kernel
theorem e_shelf {o : List PyData} (h : DrawOk o) {m : Nat} (h1 : 1 ≤ m) (h5 : m ≤ 5) : ∃ sh ∈ shelvesA.take m, ∃ o', DrawOk o' ∧ d__law_shelf [.io (.lst o), .val (.int m)] = some (.val (kds sh), [.io (.lst o'), .val (.int m)]) := by
  obtain ⟨r, o', h0, hr, h2, e⟩ := e_next h (m := m) (by omega) (by omega)
  have s5 : (5 : Nat) ≤ sizeLine := small_line 5 (by decide)
  have s1 : (1 : Nat) ≤ sizeLine := small_line 1 (by decide)
  have s2 : (2 : Nat) ≤ sizeLine := small_line 2 (by decide)
  have s3 : (3 : Nat) ≤ sizeLine := small_line 3 (by decide)
  have hm : r.toNat < m := by omega
  have hlt : r.toNat < shelvesA.length := by show r.toNat < 5; omega
  refine ⟨shelvesA[r.toNat], ?_, o', h2, ?_⟩
  · rw [List.mem_take_iff_getElem]
    exact ⟨r.toNat, by show r.toNat < min m 5; omega, rfl⟩
  · obtain ⟨S, hS⟩ : ∃ S, S = kds shelvesA[r.toNat] := ⟨_, rfl⟩
    have ix : gIx (.list [.tuple [.str "a"], .tuple [.str "a", .str "b"], .tuple [.str "a", .str "b", .str "c"], .tuple [.str "a", .str "ab", .str "b"], .tuple [.str "b", .str "c"]]) (.int r) = some S := by
      rw [hS]
      exact gIx_lst (ds := shelvesA.map kds) h0 (by rw [List.getElem?_map, List.getElem?_eq_getElem hlt]; rfl)
    rw [← hS]
    simp [d__law_shelf, b__law_shelf, e, s5, s1, s2, s3, iosOf, mkIn, putB, backIn, ix]

/-- ks stands in sh, in order -/
theorem sub_filter {ks sh : List Ky} (nd : sh.Nodup) (h : ks.Sublist sh) : ks = sh.filter fun k => decide (k ∈ ks) := by
  induction h with
  | slnil => rfl
  | @cons l1 l2 a h ih =>
    rw [List.nodup_cons] at nd
    have : a ∉ l1 := fun q => nd.1 (h.subset q)
    rw [List.filter_cons_of_neg (by simpa using this)]
    exact ih nd.2
  | @cons_cons l1 l2 a h ih =>
    rw [List.nodup_cons] at nd
    rw [List.filter_cons_of_pos (by simp)]
    congr 1
    refine (ih nd.2).trans (List.filter_congr fun x hx => ?_)
    have : x ≠ a := fun q => nd.1 (q ▸ hx)
    simp [this]
theorem len_sub {ks sh : List Ky} (h : ks.Sublist sh) : ks.length ≤ sh.length := h.length_le
/-- what a comprehension with a drawn test leaves -/
theorem draw_sub {g : GM} {t : TM} {m : VM} {vs : List Nat} {R : List PyData → Rho} {sh : List Ky} {o : List PyData} (ho : DrawOk o) (P : Ky → Prop)
    (step : ∀ k ∈ sh, ∀ o, DrawOk o → ∃ (b : Bool) (o' : List PyData), DrawOk o' ∧ (P k → b = true) ∧ stepD g t m vs (kd k) (R o) = some (if b = true then some (kd k) else none, R o')) :
    Ok (compD g t m vs (sh.map kd) (R o)) fun p => ∃ (ks : List Ky) (o' : List PyData), ks.Sublist sh ∧ (∀ k ∈ sh, P k → k ∈ ks) ∧ DrawOk o' ∧ p = (ks.map kd, R o') :=
  ok_comp (fun dn ds ρ => ∃ (ks : List Ky) (o' : List PyData), ks.Sublist dn ∧ (∀ k ∈ dn, P k → k ∈ ks) ∧ DrawOk o' ∧ ds = ks.map kd ∧ ρ = R o') ⟨[], o, .slnil, by simp, ho, rfl, rfl⟩
    (fun k l ds ρ hk ⟨ks, o1, hs, hp, h1, hd, hr⟩ => by
      subst hr hd
      obtain ⟨b, o2, h2, hb, e⟩ := step k hk o1 h1
      refine ⟨_, e, ?_⟩
      cases b with
      | true => exact ⟨ks ++ [k], o2, hs.append (.refl _), fun x hx px => by
          rcases List.mem_append.mp hx with hx | hx
          · exact List.mem_append_left _ (hp x hx px)
          · exact List.mem_append_right _ hx, h2, by simp, rfl⟩
      | false => exact ⟨ks, o2, (hs.trans (List.sublist_append_left _ _)), fun x hx px => by
          rcases List.mem_append.mp hx with hx | hx
          · exact hp x hx px
          · rw [List.mem_singleton] at hx
            subst hx
            exact absurd (hb px) (by simp), h2, by simp, rfl⟩)
    (fun ds ρ ⟨ks, o', hs, hp, h', hd, hr⟩ => ⟨ks, o', hs, hp, h', by rw [hd, hr]⟩)
/-- a commit that the laws draw -/
def GoodC (sh : List Ky) (c : Commit) : Prop := c ≠ [] ∧ (c.map (·.1)).Sublist sh
theorem e_history {o : List PyData} (ho : DrawOk o) {sh : List Ky} (hne : sh ≠ []) (hsl : sh.length ≤ 100) {m : Nat} (hm : m ≤ 100) : ∃ h : Hist, h.length = m ∧ (∀ c ∈ h, GoodC sh c) ∧ ∃ o', DrawOk o' ∧
    d__law_history [.io (.lst o), .val (kds sh), .val (.int m)] = some (.val (encH h), [.io (.lst o'), .val (kds sh), .val (.int m)]) := by
  have s2 : (2 : Nat) ≤ sizeLine := small_line 2 (by decide)
  have s1 : (1 : Nat) ≤ sizeLine := small_line 1 (by decide)
  have s100 := small_line 100 (by decide)
  have lpos : 0 < sh.length := List.length_pos_iff.mpr hne
  -- keys drawn
  have row1 : ∀ (o : List PyData), DrawOk o → ∀ (L C K : Sl), Ok (compD (gNm 6) t1__law_history (mV (dVar 6)) [6] (sh.map kd) [.io (.lst o), .val (kds sh), .val (.int m), L, C, K, .un]) fun p => ∃ (ks : List Ky) (o' : List PyData), ks.Sublist sh ∧ (∀ k ∈ sh, False → k ∈ ks) ∧ DrawOk o' ∧ p = (ks.map kd, [.io (.lst o'), .val (kds sh), .val (.int m), L, C, K, .un]) := fun o ho L C K =>
    draw_sub (R := fun o => [.io (.lst o), .val (kds sh), .val (.int m), L, C, K, .un]) ho (fun _ => False) fun k hk o ho => by
      obtain ⟨r, o', r0, r1, h', en⟩ := e_next ho (m := 2) (by decide) (by decide)
      refine ⟨decide (r = 0), o', h', fun z => z.elim, ?_⟩
      by_cases q : r = 0 <;> simp [stepD, t1__law_history, en, iosOf, mkIn, putB, q]
  -- values drawn
  have row2 : ∀ (o : List PyData), DrawOk o → ∀ (ks : List Ky) (L C K : Sl), Ok (compD (gNm 6) tYesM c1__law_history [6] (ks.map kd) [.io (.lst o), .val (kds sh), .val (.int m), L, C, K, .un]) fun p => ∃ (c : Commit) (o' : List PyData), c.map (·.1) = ks ∧ DrawOk o' ∧ p = (c.map encP, [.io (.lst o'), .val (kds sh), .val (.int m), L, C, K, .un]) := fun o ho ks L C K =>
    ok_comp (fun dn ds ρ => ∃ (c : Commit) (o' : List PyData), c.map (·.1) = dn ∧ DrawOk o' ∧ ds = c.map encP ∧ ρ = [.io (.lst o'), .val (kds sh), .val (.int m), L, C, K, .un]) ⟨[], o, rfl, ho, rfl, rfl⟩
      (fun k l ds ρ hk ⟨c, o1, hc, h1, hd, hr⟩ => by
        subst hr hd
        obtain ⟨r, o', r0, r1, h', en⟩ := e_next h1 (m := 5) (by decide) (by decide)
        exact ⟨(some (encP (k, r - 2)), [.io (.lst o'), .val (kds sh), .val (.int m), L, C, K, .un]), by simp [stepD, c1__law_history, en, iosOf, mkIn, putB, encP, s2], c ++ [(k, r - 2)], o', by simp [hc], h', by simp, rfl⟩)
      (fun ds ρ ⟨c, o', hc, h', hd, hr⟩ => ⟨c, o', hc, h', by rw [hd, hr]⟩)
  obtain ⟨p, e1, h, o', a, b, hl, hg, h', rfl⟩ := ok_loop (g := gNm 4) (m := l1__law_history) (enc := fun (i : Nat) => .int (0 + i)) (xs := List.range m) (ρ := [.io (.lst o), .val (kds sh), .val (.int m), .own (.lst []), .un, .un, .un])
    (Post := fun p => ∃ (h : Hist) (o : List PyData) (a b : Sl), h.length = m ∧ (∀ c ∈ h, GoodC sh c) ∧ DrawOk o ∧ p = (.nx, [.io (.lst o), .val (kds sh), .val (.int m), .own (.lst (h.map encC)), a, b, .un]))
    (fun rest ρ => ∃ (h : Hist) (o : List PyData) (a b : Sl), h.length + rest.length = m ∧ (∀ c ∈ h, GoodC sh c) ∧ DrawOk o ∧ fr a = true ∧ fr b = true ∧ ρ = [.io (.lst o), .val (kds sh), .val (.int m), .own (.lst (h.map encC)), a, b, .un])
    ⟨[], o, .un, .un, by simp, by simp, ho, rfl, rfl, rfl⟩ (fun i rest ρ hi ⟨h, o, a, b, hl, hg, ho, fa, fb, e⟩ => by
      subst e
      have hl' : h.length + (rest.length + 1) = m := hl
      have hlen : h.length < sizeLine := by omega
      obtain ⟨p1, c1, ks, o1, hs, _, h1, rfl⟩ := row1 o ho (.own (.lst (h.map encC))) (.val (.int (0 + i))) b
      by_cases hk : ks = []
      · subst hk
        obtain ⟨r, o2, r0, r1, h2, en⟩ := e_next h1 (m := (sh.length : Int)) (by omega) (by omega)
        have hr : r.toNat < sh.length := by omega
        have ix : gIx (.tuple (sh.map kd)) (.int r) = some (kd sh[r.toNat]) := gIx_tup r0 (by rw [List.getElem?_map, List.getElem?_eq_getElem hr]; rfl)
        obtain ⟨p2, c2, c, o3, hc, h3, rfl⟩ := row2 o2 h2 [sh[r.toNat]] (.own (.lst (h.map encC))) (.val (.int (0 + i))) (.val (.list [kd sh[r.toNat]]))
        refine ⟨(.nx, [.io (.lst o3), .val (kds sh), .val (.int m), .own (.lst ((h ++ [c]).map encC)), .val (.int (0 + i)), .val (.list [kd sh[r.toNat]]), .un]), ?_, h ++ [c], o3, _, _, by simp; omega, fun x hx => ?_, h3, rfl, rfl, rfl⟩
        · simp at c1 c2
          simp [fa, fb, l1__law_history, c1, en, ix, iosOf, mkIn, putB, c2, s1, hlen, updL, encC]
        · rcases List.mem_append.mp hx with hx | hx
          · exact hg x hx
          · rw [List.mem_singleton.mp hx]
            exact ⟨by rintro rfl; simp at hc, by rw [hc]; exact List.singleton_sublist.mpr (List.getElem_mem hr)⟩
      · obtain ⟨p2, c2, c, o3, hc, h3, rfl⟩ := row2 o1 h1 ks (.own (.lst (h.map encC))) (.val (.int (0 + i))) (.val (.list (ks.map kd)))
        refine ⟨(.nx, [.io (.lst o3), .val (kds sh), .val (.int m), .own (.lst ((h ++ [c]).map encC)), .val (.int (0 + i)), .val (.list (ks.map kd)), .un]), ?_, h ++ [c], o3, _, _, by simp; omega, fun x hx => ?_, h3, rfl, rfl, rfl⟩
        · simp at c1 c2
          have hk2 : (ks.map fun (k : Ky) => PyData.str k.s) ≠ [] := by simpa using hk
          simp [fa, fb, l1__law_history, c1, iosOf, mkIn, putB, c2, hk, hlen, updL, encC]
        · rcases List.mem_append.mp hx with hx | hx
          · exact hg x hx
          · rw [List.mem_singleton.mp hx]
            exact ⟨by rintro rfl; simp at hc; exact hk (by simpa using hc), by rw [hc]; exact hs⟩)
    (fun ρ ⟨h, o, a, b, hl, hg, ho, fa, fb, e⟩ => ⟨h, o, a, b, by simpa using hl, hg, ho, by rw [e]⟩)
  refine ⟨h, hl, hg, o', h', ?_⟩
  have l1 : (m : Int) ≤ 16777216 := by omega
  have l2 : -(4611686018427387904 : Int) ≤ m := by omega
  simp only [Int.zero_add] at e1
  have s0 : (0 : Nat) ≤ sizeLine := Nat.zero_le _
  simp [d__law_history, b__law_history, rngD, l1, l2, e1, encH, backIn]

theorem writesOf_append (a b : Hist) (k : Ky) : writesOf (a ++ b) k = writesOf a k ++ writesOf b k := by simp [writesOf]
theorem e_values (h : Hist) (k : Ky) (hl : (writesOf h k).length ≤ 10000) : d__law_values [.val (encH h), .val (kd k)] = some (.val (.list ((writesOf h k).map .int)), [.val (encH h), .val (kd k)]) := by
  obtain ⟨p, e1, a, rfl⟩ := ok_loop (g := gNm 3) (m := l1__law_values) (enc := encC) (xs := h) (ρ := [.val (encH h), .val (kd k), .val (.list []), .un, .un, .un])
    (Post := fun p => ∃ a, p = (.nx, [.val (encH h), .val (kd k), .val (.list ((writesOf h k).map .int)), a, .un, .un]))
    (fun rest ρ => ∃ (dn : Hist) (a : Sl), dn ++ rest = h ∧ fr a = true ∧ ρ = [.val (encH h), .val (kd k), .val (.list ((writesOf dn k).map .int)), a, .un, .un])
    ⟨[], .un, rfl, rfl, rfl⟩ (fun c rest ρ hc ⟨dn, a, hd, fa, e⟩ => by
      subst e
      have hw : writesOf (dn ++ [c]) k = writesOf dn k ++ (c.filter fun p => decide (p.1 = k)).map (·.2) := by rw [writesOf_append]; simp [writesOf]
      have hlen : (writesOf dn k).length + (c.filter fun p => decide (p.1 = k)).length ≤ sizeLine := by
        have h2 : writesOf h k = writesOf (dn ++ [c]) k ++ writesOf rest k := by rw [← writesOf_append, ← hd]; simp
        have h3 := congrArg List.length h2
        rw [hw] at h3
        simp only [List.length_append, List.length_map] at h3
        rw [sizeLine_eq]
        omega
      have cm : compD (gTp [gNm 4, gNm 5]) t1__law_values (mV (dVar 5)) [4, 5] (c.map encP) [.val (encH h), .val (kd k), .val (.list ((writesOf dn k).map .int)), .val (encC c), .un, .un] = some ((c.filter fun p => decide (p.1 = k)).map (fun p => .int p.2), [.val (encH h), .val (kd k), .val (.list ((writesOf dn k).map .int)), .val (encC c), .un, .un]) :=
        comp_fm _ _ fun p hp => by
          by_cases q : p.1 = k <;> simp [stepD, t1__law_values, encP, q]
      refine ⟨(.nx, [.val (encH h), .val (kd k), .val (.list ((writesOf (dn ++ [c]) k).map .int)), .val (encC c), .un, .un]), ?_, dn ++ [c], _, by simpa using hd, rfl, rfl⟩
      have gc : gAdd (.list ((writesOf dn k).map .int)) (.list ((c.filter fun p => decide (p.1 = k)).map fun p => .int p.2)) = some (.list ((writesOf (dn ++ [c]) k).map .int)) := by
        show (if _ then _ else _) = _
        rw [if_pos (by simpa using hlen), hw, List.map_append, List.map_map]
        rfl
      simp [encC] at cm
      simp [fa, l1__law_values, encC, cm, gc])
    (fun ρ ⟨dn, a, hd, fa, e⟩ => ⟨a, by rw [e]; simp at hd; rw [hd]⟩)
  have s0 : (0 : Nat) ≤ sizeLine := Nat.zero_le _
  have e3 : encH h = .list (h.map encC) := rfl
  simp [e3] at e1
  simp [d__law_values, b__law_values, e3, e1, backIn]
theorem e_times (h : Hist) (k : Ky) (n : Nat) (hl : (writesOf h k).length ≤ 10000) : d__law_times [.val (encH h), .val (kd k), .val (.int n)] = some (.val (.int (writesOf (h.take n) k).length), [.val (encH h), .val (kd k), .val (.int n)]) := by
  have ev := e_values (h.take n) k (by have := (writes_take h k n).1; omega)
  have gs := gSl_take (h.map encC) n
  rw [← List.map_take] at gs
  have e3 : ∀ h, encH h = .list (h.map encC) := fun _ => rfl
  simp [e3] at ev gs
  simp [d__law_times, b__law_times, e3, gs, ev, iosOf, mkIn, putB, backIn]
end Vw
/-! Va3: news that the first laws draw: _law_told, _law_wild, _law_head. -/
namespace Vw
open PySem PySem.Spec L2 Vx

def WfP (sh : List Ky) (m : Int) : Piece → Prop
  | .head v => 1 ≤ v ∧ v ≤ m
  | .times k v n => k ∈ sh ∧ 0 ≤ v ∧ v ≤ m ∧ 0 ≤ n
  | .value k i v => k ∈ sh ∧ 1 ≤ i
  | .wrote v ks => (1 ≤ v ∧ v ≤ m) ∧ ks ≠ [] ∧ ks.Sublist sh
  | .among v ks => (1 ≤ v ∧ v ≤ m) ∧ ks ≠ [] ∧ ks.Sublist sh
  | .many v n => (1 ≤ v ∧ v ≤ m) ∧ 1 ≤ n
  | .did v k => (1 ≤ v ∧ v ≤ m) ∧ k ∈ sh
theorem e_told {o : List PyData} (ho : DrawOk o) {sh : List Ky} {h : Hist} (hne : h ≠ []) (hl : h.length ≤ 100) (hg : ∀ c ∈ h, GoodC sh c) (sne : sh ≠ []) (sl : sh.length ≤ 100) (hw : ∀ k, (writesOf h k).length ≤ 10000) :
    ∃ p : Piece, WfP sh h.length p ∧ isTrue h p = true ∧ ∃ o', DrawOk o' ∧ d__law_told [.io (.lst o), .val (kds sh), .val (encH h)] = some (.val p.enc, [.io (.lst o'), .val (kds sh), .val (encH h)]) := by
  have s2 : (2 : Nat) ≤ sizeLine := small_line 2 (by decide)
  have s3 : (3 : Nat) ≤ sizeLine := small_line 3 (by decide)
  have s4 : (4 : Nat) ≤ sizeLine := small_line 4 (by decide)
  have hpos : 0 < h.length := List.length_pos_iff.mpr hne
  have spos : 0 < sh.length := List.length_pos_iff.mpr sne
  obtain ⟨r1, o1, a1, b1, h1, n1⟩ := e_next ho (m := (h.length : Int)) (by omega) (by omega)
  obtain ⟨r2, o2, a2, b2, h2, n2⟩ := e_next h1 (m := (sh.length : Int)) (by omega) (by omega)
  obtain ⟨r3, o3, a3, b3, h3, n3⟩ := e_next h2 (m := 9) (by omega) (by omega)
  have i1 : r1.toNat < h.length := by omega
  have i2 : r2.toNat < sh.length := by omega
  obtain ⟨v, hv⟩ : ∃ v, 1 + r1 = v := ⟨_, rfl⟩
  obtain ⟨c, hc⟩ : ∃ c, c = h[r1.toNat] := ⟨_, rfl⟩
  obtain ⟨k, hk⟩ : ∃ k, k = sh[r2.toNat] := ⟨_, rfl⟩
  have cm : c ∈ h := hc ▸ List.getElem_mem i1
  have km : k ∈ sh := hk ▸ List.getElem_mem i2
  have gc := hg c cm
  have hv1 : (1 ≤ v ∧ v ≤ h.length) := by omega
  have at1 : atV h v = c.map (·.1) := by
    unfold atV
    rw [show (v - 1).toNat = r1.toNat by omega, List.getElem?_eq_getElem i1, hc]
    rfl
  have ih : gIx (.list (h.map encC)) (.int (v - 1)) = some (encC c) := gIx_lst (by omega) (by rw [show (v - 1).toNat = r1.toNat by omega, List.getElem?_map, List.getElem?_eq_getElem i1, hc]; rfl)
  have ik : gIx (.tuple (sh.map kd)) (.int r2) = some (kd k) := gIx_tup a2 (by rw [List.getElem?_map, List.getElem?_eq_getElem i2, hk]; rfl)
  obtain ⟨ks, hks⟩ : ∃ ks, ks = c.map (·.1) := ⟨_, rfl⟩
  have kne : ks ≠ [] := by rw [hks]; simpa using gc.1
  have ksub : ks.Sublist sh := hks ▸ gc.2
  rw [← hks] at at1
  have cm1 : ∀ (o : List PyData), compD (gTp [gNm 5, gNm 6]) tYesM (mV (dVar 5)) [5, 6] (c.map encP) [.io (.lst o), .val (kds sh), .val (.list (h.map encC)), .val (.int v), .un, .un, .un, .un, .un, .un, .un] = some (ks.map kd, [.io (.lst o), .val (kds sh), .val (.list (h.map encC)), .val (.int v), .un, .un, .un, .un, .un, .un, .un]) := fun o => by
    rw [hks, List.map_map]
    exact compD_mp _ fun p hp => by simp [stepD, encP]
  have pre : d__law_told [.io (.lst o), .val (kds sh), .val (encH h)] = d__law_told [.io (.lst o), .val (kds sh), .val (.list (h.map encC))] := rfl
  have e3 : encH h = .list (h.map encC) := rfl
  rw [e3]
  have r3c : r3 = 0 ∨ r3 = 1 ∨ r3 = 2 ∨ r3 = 3 ∨ (r3 = 4 ∨ r3 = 5) ∨ r3 = 8 ∨ (r3 = 6 ∨ r3 = 7) := by omega
  rcases r3c with rfl | rfl | rfl | rfl | hr | rfl | hr
  · refine ⟨.wrote v ks, ⟨hv1, kne, ksub⟩, by simp [Vx.isTrue, at1], o3, h3, ?_⟩
    simp [d__law_told, b__law_told, n1, n2, n3, hv, ih, ik, encC, cm1, iosOf, mkIn, putB, s3, backIn, Piece.enc]
  · refine ⟨.many v ks.length, ⟨hv1, by have := List.length_pos_iff.mpr kne; omega⟩, by simp [Vx.isTrue, at1], o3, h3, ?_⟩
    simp [d__law_told, b__law_told, n1, n2, n3, hv, ih, ik, encC, cm1, iosOf, mkIn, putB, s3, backIn, Piece.enc]
  · obtain ⟨p, ec, js, o4, js1, js2, h4, rfl⟩ := draw_sub (g := gNm 8) (t := t1__law_told) (m := mV (dVar 8)) (vs := [8]) (R := fun o => [.io (.lst o), .val (kds sh), .val (.list (h.map encC)), .val (.int v), .val (kds ks), .val (kd k), .un, .val (.int 2), .un, .un, .un]) (sh := sh) h3 (fun x => x ∈ ks) fun x hx o ho => by
      by_cases q : x ∈ ks
      · exact ⟨true, o, ho, fun _ => rfl, by simp [stepD, t1__law_told, q]⟩
      · obtain ⟨r, o', r0, r1, h', en⟩ := e_next ho (m := 2) (by decide) (by decide)
        refine ⟨decide (r = 0), o', h', fun z => absurd z q, ?_⟩
        by_cases q2 : r = 0 <;> simp [stepD, t1__law_told, q, en, iosOf, mkIn, putB, q2]
    refine ⟨.among v js, ⟨hv1, ?_, js1⟩, ?_, o4, h4, ?_⟩
    · obtain ⟨x, hx⟩ := List.exists_mem_of_ne_nil _ kne
      exact List.ne_nil_of_mem (js2 x (ksub.subset hx) hx)
    · simp only [Vx.isTrue, at1, List.all_eq_true, decide_eq_true_eq]
      exact fun x hx => js2 x (ksub.subset hx) hx
    · simp [d__law_told, b__law_told, n1, n2, n3, hv, ih, ik, encC, cm1, iosOf, mkIn, putB, ec, s3, backIn, Piece.enc]
  · obtain ⟨r4, o4, a4, b4, h4, n4⟩ := e_next h3 (m := (ks.length : Int)) (by have := List.length_pos_iff.mpr kne; omega) (by have := ksub.length_le; omega)
    have i4 : r4.toNat < ks.length := by omega
    have ix4 : gIx (.tuple (ks.map kd)) (.int r4) = some (kd ks[r4.toNat]) := gIx_tup a4 (by rw [List.getElem?_map, List.getElem?_eq_getElem i4]; rfl)
    refine ⟨.did v ks[r4.toNat], ⟨hv1, ksub.subset (List.getElem_mem i4)⟩, by simp [Vx.isTrue, at1], o4, h4, ?_⟩
    simp [d__law_told, b__law_told, n1, n2, n3, n4, hv, ih, ik, ix4, encC, cm1, iosOf, mkIn, putB, s3, backIn, Piece.enc]
  · have et := e_times h k v.toNat (hw k)
    rw [show ((v.toNat : Nat) : Int) = v by omega] at et
    refine ⟨.times k v (writesOf (h.take v.toNat) k).length, ⟨km, by omega, hv1.2, by omega⟩, by simp [Vx.isTrue], o3, h3, ?_⟩
    rw [e3] at et
    have q1 : ¬ r3 = 0 := by omega
    have q2 : ¬ r3 = 1 := by omega
    have q3 : ¬ r3 = 2 := by omega
    have q4 : ¬ r3 = 3 := by omega
    have q5 : r3 < 6 := by omega
    simp [d__law_told, b__law_told, n1, n2, n3, hv, ih, ik, encC, cm1, iosOf, mkIn, putB, et, q1, q2, q3, q4, q5, s4, backIn, Piece.enc]
  · refine ⟨.head v, hv1, rfl, o3, h3, ?_⟩
    simp [d__law_told, b__law_told, n1, n2, n3, hv, ih, ik, encC, cm1, iosOf, mkIn, putB, s2, backIn, Piece.enc]
  · have ev := e_values h k (hw k)
    rw [e3] at ev
    obtain ⟨r4, o4, a4, b4, h4, n4⟩ := e_next h3 (m := 4) (by omega) (by omega)
    obtain ⟨i, hi⟩ : ∃ i, 1 + r4 = i := ⟨_, rfl⟩
    have q1 : ¬ r3 = 0 := by omega
    have q2 : ¬ r3 = 1 := by omega
    have q3 : ¬ r3 = 2 := by omega
    have q4 : ¬ r3 = 3 := by omega
    have q5 : ¬ r3 < 6 := by omega
    have q6 : ¬ r3 = 8 := by omega
    by_cases q : i ≤ (writesOf h k).length
    · have iw : (i - 1).toNat < (writesOf h k).length := by omega
      have ix : gIx (.list ((writesOf h k).map .int)) (.int (i - 1)) = some (.int (writesOf h k)[(i - 1).toNat]) := gIx_lst (by omega) (by rw [List.getElem?_map, List.getElem?_eq_getElem iw]; rfl)
      refine ⟨.value k i (writesOf h k)[(i - 1).toNat], ⟨km, by omega⟩, by simp [Vx.isTrue], o4, h4, ?_⟩
      simp [d__law_told, b__law_told, n1, n2, n3, n4, hv, hi, ih, ik, encC, cm1, iosOf, mkIn, putB, ev, ix, q, q1, q2, q3, q4, q5, q6, s4, backIn, Piece.enc]
    · obtain ⟨r5, o5, a5, b5, h5, n5⟩ := e_next h4 (m := 3) (by omega) (by omega)
      refine ⟨.value k i r5, ⟨km, by omega⟩, by simp [Vx.isTrue]; left; omega, o5, h5, ?_⟩
      simp [d__law_told, b__law_told, n1, n2, n3, n4, n5, hv, hi, ih, ik, encC, cm1, iosOf, mkIn, putB, ev, q, q1, q2, q3, q4, q5, q6, s4, backIn, Piece.enc]

theorem e_wild {o : List PyData} (ho : DrawOk o) {sh : List Ky} (sne : sh ≠ []) (sl : sh.length ≤ 100) {m : Nat} (m1 : 1 ≤ m) (m2 : m ≤ 100) :
    ∃ p : Piece, WfP sh m p ∧ ∃ o', DrawOk o' ∧ d__law_wild [.io (.lst o), .val (kds sh), .val (.int m)] = some (.val p.enc, [.io (.lst o'), .val (kds sh), .val (.int m)]) := by
  have s3 : (3 : Nat) ≤ sizeLine := small_line 3 (by decide)
  have s4 : (4 : Nat) ≤ sizeLine := small_line 4 (by decide)
  have spos : 0 < sh.length := List.length_pos_iff.mpr sne
  obtain ⟨r1, o1, a1, b1, h1, n1⟩ := e_next ho (m := (m : Int)) (by omega) (by omega)
  obtain ⟨r2, o2, a2, b2, h2, n2⟩ := e_next h1 (m := (sh.length : Int)) (by omega) (by omega)
  have i2 : r2.toNat < sh.length := by omega
  obtain ⟨v, hv⟩ : ∃ v, 1 + r1 = v := ⟨_, rfl⟩
  obtain ⟨k, hk⟩ : ∃ k, k = sh[r2.toNat] := ⟨_, rfl⟩
  have km : k ∈ sh := hk ▸ List.getElem_mem i2
  have hv1 : (1 ≤ v ∧ v ≤ m) := by omega
  have ik : gIx (.tuple (sh.map kd)) (.int r2) = some (kd k) := gIx_tup a2 (by rw [List.getElem?_map, List.getElem?_eq_getElem i2, hk]; rfl)
  obtain ⟨p, ec, js, o3, js1, js2, h3, rfl⟩ := draw_sub (g := gNm 6) (t := t1__law_wild) (m := mV (dVar 6)) (vs := [6]) (R := fun o => [.io (.lst o), .val (kds sh), .val (.int m), .val (.int v), .val (kd k), .un, .un, .un]) (sh := sh) h2 (fun x => x = k) fun x hx o ho => by
    by_cases q : x = k
    · exact ⟨true, o, ho, fun _ => rfl, by simp [stepD, t1__law_wild, q]⟩
    · obtain ⟨r, o', r0, r1, h', en⟩ := e_next ho (m := 3) (by decide) (by decide)
      refine ⟨decide (r = 0), o', h', fun z => absurd z q, ?_⟩
      by_cases q2 : r = 0 <;> simp [stepD, t1__law_wild, q, en, iosOf, mkIn, putB, q2]
  have jne : js ≠ [] := List.ne_nil_of_mem (js2 k km rfl)
  obtain ⟨r3, o4, a3, b3, h4, n3⟩ := e_next h3 (m := 8) (by omega) (by omega)
  have i3 : ∀ (a b c : PyData) (i : Nat) (d : PyData), [a, b, c][i]? = some d → gIx (.list [a, b, c]) (.int i) = some d := fun a b c i d e => gIx_lst (by omega) (by simpa using e)
  have r3c : r3 = 0 ∨ r3 = 1 ∨ r3 = 2 ∨ r3 = 3 ∨ r3 = 4 ∨ (r3 = 5 ∨ r3 = 6) ∨ r3 = 7 := by omega
  rcases r3c with rfl | rfl | rfl | rfl | rfl | hr | rfl
  · refine ⟨.wrote v js, ⟨hv1, jne, js1⟩, o4, h4, ?_⟩
    simp [d__law_wild, b__law_wild, n1, n2, n3, hv, ik, ec, iosOf, mkIn, putB, s3, backIn, Piece.enc]
  · refine ⟨.among v js, ⟨hv1, jne, js1⟩, o4, h4, ?_⟩
    simp [d__law_wild, b__law_wild, n1, n2, n3, hv, ik, ec, iosOf, mkIn, putB, s3, backIn, Piece.enc]
  · refine ⟨.wrote v js, ⟨hv1, jne, js1⟩, o4, h4, ?_⟩
    simp [d__law_wild, b__law_wild, n1, n2, n3, hv, ik, ec, iosOf, mkIn, putB, s3, backIn, Piece.enc]
  · obtain ⟨r4, o5, a4, b4, h5, n4⟩ := e_next h4 (m := (sh.length : Int) + 1) (by omega) (by omega)
    refine ⟨.many v (1 + r4), ⟨hv1, by omega⟩, o5, h5, ?_⟩
    simp [d__law_wild, b__law_wild, n1, n2, n3, n4, hv, ik, ec, iosOf, mkIn, putB, s3, backIn, Piece.enc]
  · refine ⟨.did v k, ⟨hv1, km⟩, o4, h4, ?_⟩
    simp [d__law_wild, b__law_wild, n1, n2, n3, hv, ik, ec, iosOf, mkIn, putB, s3, backIn, Piece.enc]
  · obtain ⟨r4, o5, a4, b4, h5, n4⟩ := e_next h4 (m := v + 2) (by omega) (by omega)
    have q1 : ¬ r3 < 3 := by omega
    have q2 : ¬ r3 = 3 := by omega
    have q3 : ¬ r3 = 4 := by omega
    have q4 : r3 < 7 := by omega
    refine ⟨.times k v r4, ⟨km, by omega, hv1.2, a4⟩, o5, h5, ?_⟩
    simp [d__law_wild, b__law_wild, n1, n2, n3, n4, hv, ik, ec, q1, q2, q3, q4, iosOf, mkIn, putB, s4, backIn, Piece.enc]
  · obtain ⟨r4, o5, a4, b4, h5, n4⟩ := e_next h4 (m := 3) (by omega) (by omega)
    obtain ⟨r5, o6, a5, b5, h6, n5⟩ := e_next h5 (m := 3) (by omega) (by omega)
    refine ⟨.value k (1 + r4) r5, ⟨km, by omega⟩, o6, h6, ?_⟩
    simp [d__law_wild, b__law_wild, n1, n2, n3, n4, n5, hv, ik, ec, iosOf, mkIn, putB, s4, backIn, Piece.enc]

theorem head_step (p : Piece) (a : Int) (h : 0 ≤ a) : (if p.ver > a then p.ver else a) = max a p.ver := by
  split <;> omega
theorem e_law_head (n : List Piece) : d__law_head [.val (encN n)] = some (.val (.int (headOf n)), [.val (encN n)]) := by
  have snoc : ∀ (dn : List Piece) (p : Piece), headOf (dn ++ [p]) = max (headOf dn) p.ver := fun dn p => by simp [headOf]
  obtain ⟨p, e1, a, rfl⟩ := ok_loop (g := gNm 2) (m := l1__law_head) (enc := Piece.enc) (xs := n) (ρ := [.val (encN n), .val (.int 0), .un])
    (Post := fun p => ∃ a, p = (.nx, [.val (encN n), .val (.int (headOf n)), a]))
    (fun rest ρ => ∃ (dn : List Piece) (a : Sl), dn ++ rest = n ∧ fr a = true ∧ ρ = [.val (encN n), .val (.int (headOf dn)), a])
    ⟨[], .un, rfl, rfl, rfl⟩ (fun p rest ρ hp ⟨dn, a, hd, fa, e⟩ => by
      subst e
      have h0 := headOf_nn dn
      refine ⟨(.nx, [.val (encN n), .val (.int (headOf (dn ++ [p]))), .val p.enc]), ?_, dn ++ [p], _, by simpa using hd, rfl, rfl⟩
      rw [snoc, ← head_step p _ h0]
      cases p with
      | value k i v =>
        have : ¬ (0 : Int) > headOf dn := by omega
        simp [fa, l1__law_head, Piece.enc, Piece.ver, this]
      | _ => simp [fa, l1__law_head, Piece.enc, Piece.ver, gMax2])
    (fun ρ ⟨dn, a, hd, fa, e⟩ => ⟨a, by rw [e]; simp at hd; rw [hd]⟩)
  have e3 : encN n = .list (n.map Piece.enc) := rfl
  simp [e3] at e1
  simp [d__law_head, b__law_head, e3, e1, backIn]
end Vw
/-! Va4: _law_once, _law_news. -/
namespace Vw
open PySem PySem.Spec L2 Vx

/-- the first three things of a piece -/
def placeD : Piece → PyData
  | .head v => .tuple [.str "head", .int v]
  | .times k v n => .tuple [.str "times", kd k, .int v]
  | .value k i v => .tuple [.str "value", kd k, .int i]
  | .wrote v ks => .tuple [.str "wrote", .int v, kds ks]
  | .among v ks => .tuple [.str "among", .int v, kds ks]
  | .many v n => .tuple [.str "many", .int v, .int n]
  | .did v k => .tuple [.str "did", .int v, kd k]
def keysK (ks : List Ky) : List NestedKey := ks.map fun k => .text k.s
def placeK : Piece → NestedKey
  | .head v => .tup [.text "head", .num v]
  | .times k v n => .tup [.text "times", .text k.s, .num v]
  | .value k i v => .tup [.text "value", .text k.s, .num i]
  | .wrote v ks => .tup [.text "wrote", .num v, .tup (keysK ks)]
  | .among v ks => .tup [.text "among", .num v, .tup (keysK ks)]
  | .many v n => .tup [.text "many", .num v, .num n]
  | .did v k => .tup [.text "did", .num v, .text k.s]
theorem sl_place (p : Piece) : gSl p.enc none (some 3) = some (placeD p) := by
  cases p <;> rfl
theorem keysOf_kds (ks : List Ky) : keysOf (ks.map kd) = some (keysK ks) := by
  induction ks with
  | nil => simp [keysOf, keysK]
  | cons k ks ih =>
    rw [List.map_cons]
    unfold keysOf
    rw [ih]
    simp [keyOf, keysK]
theorem depth_keysK (ks : List Ky) : NestedKey.depthAll (keysK ks) = 0 := by
  induction ks with
  | nil => rfl
  | cons k ks ih =>
    show max (NestedKey.depth (.text k.s)) (NestedKey.depthAll (keysK ks)) = 0
    rw [ih]
    rfl
theorem keyD_place (p : Piece) : keyD (placeD p) = some (placeK p) := by
  have kk := keysOf_kds
  have dk := depth_keysK
  cases p <;> simp [placeD, keyD, keyOf, keysOf, placeK, NestedKey.depth, NestedKey.depthAll, kk, dk]
theorem placeK_value {p : Piece} {k : Ky} {i v : Int} (h : placeK p = placeK (.value k i v)) : ∃ w, p = .value k i w := by
  cases p with
  | value k' i' v' =>
    simp [placeK] at h
    exact ⟨v', by rw [kd_inj.mp (congrArg PyData.str h.1), h.2]⟩
  | head v => simp [placeK] at h
  | times k v n => simp [placeK] at h
  | wrote v ks => simp [placeK] at h
  | among v ks => simp [placeK] at h
  | many v n => simp [placeK] at h
  | did v k => simp [placeK] at h
def tagS : Piece → Str
  | .head _ => "head"
  | .times _ _ _ => "times"
  | .value _ _ _ => "value"
  | .wrote _ _ => "wrote"
  | .among _ _ => "among"
  | .many _ _ => "many"
  | .did _ _ => "did"
def isVal : Piece → Bool
  | .value _ _ _ => true
  | _ => false
theorem ix0_enc (p : Piece) : gIx p.enc (.int 0) = some (.str (tagS p)) := by cases p <;> simp [Piece.enc, tagS]
theorem ne_val (p : Piece) : gNe (.str (tagS p)) (.str "value") = some (.bool (!isVal p)) := by cases p <;> simp [tagS, isVal]
/-- no two values for one write -/
def OneValue (n : List Piece) : Prop := ∀ k i v w, Piece.value k i v ∈ n → Piece.value k i w ∈ n → v = w
def onceD (n : List Piece) : Kvs := n.foldl (fun m p => kPut m (placeK p) p.enc) []
theorem onceD_look (n : List Piece) (q : NestedKey) : (∀ d, kLook (onceD n) q = some d → ∃ p ∈ n, placeK p = q ∧ d = p.enc) ∧ (∀ p ∈ n, placeK p = q → ∃ d, kLook (onceD n) q = some d) := by
  have : ∀ (n : List Piece) (m : Kvs) (S : List Piece), (∀ d, kLook m q = some d → ∃ p ∈ S, placeK p = q ∧ d = p.enc) → (∀ p ∈ S, placeK p = q → ∃ d, kLook m q = some d) →
      (∀ d, kLook (n.foldl (fun m p => kPut m (placeK p) p.enc) m) q = some d → ∃ p ∈ S ++ n, placeK p = q ∧ d = p.enc) ∧ (∀ p ∈ S ++ n, placeK p = q → ∃ d, kLook (n.foldl (fun m p => kPut m (placeK p) p.enc) m) q = some d) := by
    intro n
    induction n with
    | nil => intro m S h1 h2; simpa using ⟨h1, h2⟩
    | cons p n ih =>
      intro m S h1 h2
      have := ih (kPut m (placeK p) p.enc) (S ++ [p]) (fun d hd => by
        rw [look_put] at hd
        split at hd
        · rename_i e; cases hd; exact ⟨p, by simp, e, rfl⟩
        · obtain ⟨p', a, b⟩ := h1 d hd; exact ⟨p', by simp [a], b⟩) (fun p' hp e => by
        rw [look_put]
        split
        · exact ⟨_, rfl⟩
        · rename_i ne
          rcases List.mem_append.mp hp with hp | hp
          · exact h2 p' hp e
          · rw [List.mem_singleton] at hp
            exact absurd (hp ▸ e) ne)
      simpa using this
  have h := this n [] [] (by intro d h; cases h) (by simp)
  rw [List.nil_append] at h
  exact h
theorem onceD_len (n : List Piece) : (onceD n).length ≤ n.length := by
  have : ∀ (n : List Piece) (m : Kvs), (n.foldl (fun m p => kPut m (placeK p) p.enc) m).length ≤ m.length + n.length := by
    intro n
    induction n with
    | nil => intro m; simp
    | cons p n ih =>
      intro m
      have h1 := ih (kPut m (placeK p) p.enc)
      have h2 := kPut_length m (placeK p) p.enc
      rw [List.foldl_cons]
      simp; omega
  have h := this n []
  rw [List.length_nil, Nat.zero_add] at h
  exact h
theorem onceD_snoc (n : List Piece) (p : Piece) : onceD (n ++ [p]) = kPut (onceD n) (placeK p) p.enc := by simp [onceD]
theorem e_once (n : List Piece) (hn : n.length ≤ 100) : ∃ n' : List Piece, n'.Sublist n ∧ OneValue n' ∧ d__law_once [.val (encN n)] = some (.val (encN n'), [.val (encN n)]) := by
  have s100 := small_line 100 (by decide)
  obtain ⟨p, e1, n', D, a, b, hs, ho, rfl⟩ := ok_loop (g := gNm 3) (m := l1__law_once) (enc := Piece.enc) (xs := n) (ρ := [.val (encN n), .own (.dct []), .own (.lst []), .un, .un])
    (Post := fun p => ∃ (n' : List Piece) (D : Kvs) (a b : Sl), n'.Sublist n ∧ OneValue n' ∧ p = (.nx, [.val (encN n), .own (.dct D), .own (.lst (n'.map Piece.enc)), a, b]))
    (fun rest ρ => ∃ (dn n' : List Piece) (a b : Sl), dn ++ rest = n ∧ n'.Sublist dn ∧ OneValue n' ∧ fr a = true ∧ fr b = true ∧ ρ = [.val (encN n), .own (.dct (onceD n')), .own (.lst (n'.map Piece.enc)), a, b])
    ⟨[], [], .un, .un, rfl, .slnil, (by intro k i v w h; cases h), rfl, rfl, rfl⟩ (fun p rest ρ hp ⟨dn, n', a, b, hd, hs, ho, fa, fb, e⟩ => by
      subst e
      have hl : n'.length + 1 ≤ 100 := by
        have h1 := hs.length_le
        have h2 := congrArg List.length hd
        simp at h2
        omega
      have hl1 : n'.length < sizeLine := by omega
      have hl2 : (kPut (onceD n') (placeK p) p.enc).length ≤ sizeLine := by
        have := kPut_length (onceD n') (placeK p) p.enc
        have := onceD_len n'
        omega
      have sl := sl_place p
      have kp := keyD_place p
      have hd2 : (dn ++ [p]) ++ rest = n := by simpa using hd
      have keep : (∀ k i v, p = .value k i v → ∀ w, Piece.value k i w ∈ n' → w = v) → ∃ x : Fl × Rho, ((gNm 3 p.enc [.val (encN n), .own (.dct (onceD n')), .own (.lst (n'.map Piece.enc)), a, b]).bind l1__law_once) = some x ∧ x = (.nx, [.val (encN n), .own (.dct (onceD (n' ++ [p]))), .own (.lst ((n' ++ [p]).map Piece.enc)), .val p.enc, .val (placeD p)]) := fun hv => by
        refine ⟨_, ?_, rfl⟩
        rw [onceD_snoc]
        have ix := ix0_enc p
        have nv := ne_val p
        have hl3 := hl2
        cases q : isVal p with
        | false =>
          rw [q] at nv
          simp [fa, fb, l1__law_once, sl, kp, ix, nv, hl1, hl2, updL, updD]
        | true =>
          obtain ⟨k, i, v, q⟩ : ∃ k i v, p = .value k i v := by cases p <;> simp [isVal] at q; exact ⟨_, _, _, rfl⟩
          rw [‹isVal p = true›] at nv
          have lk := onceD_look n' (placeK p)
          cases q2 : kLook (onceD n') (placeK p) with
          | none =>
            simp [fa, fb, l1__law_once, sl, kp, ix, nv, q2, hl1, hl2, updL, updD]
          | some d =>
            obtain ⟨p', hp', e, rfl⟩ := lk.1 d q2
            rw [q] at e
            obtain ⟨w, rfl⟩ := placeK_value e
            have := hv k i v q w hp'
            have ge : gEq (Piece.value k i w).enc p.enc = some (.bool true) := by rw [q, this]; simp
            simp [fa, fb, l1__law_once, sl, kp, ix, nv, q2, ge, hl1, hl2, updL, updD]
      by_cases hv : ∀ k i v, p = .value k i v → ∀ w, Piece.value k i w ∈ n' → w = v
      · obtain ⟨x, hx, rfl⟩ := keep hv
        refine ⟨_, hx, dn ++ [p], n' ++ [p], _, _, hd2, hs.append (.refl _), ?_, rfl, rfl, rfl⟩
        intro k i v w h1 h2
        rcases List.mem_append.mp h1 with h1 | h1 <;> rcases List.mem_append.mp h2 with h2 | h2
        · exact ho k i v w h1 h2
        · exact hv k i w (List.mem_singleton.mp h2).symm v h1
        · exact (hv k i v (List.mem_singleton.mp h1).symm w h2).symm
        · have := (List.mem_singleton.mp h1).trans (List.mem_singleton.mp h2).symm
          simpa using this
      · obtain ⟨k, hv1⟩ := Classical.not_forall.mp hv
        obtain ⟨i, hv2⟩ := Classical.not_forall.mp hv1
        obtain ⟨v, hv3⟩ := Classical.not_forall.mp hv2
        obtain ⟨ep, hv4⟩ := Classical.not_imp.mp hv3
        obtain ⟨w, hv5⟩ := Classical.not_forall.mp hv4
        obtain ⟨hw, ne⟩ := Classical.not_imp.mp hv5
        subst ep
        refine ⟨(.nx, [.val (encN n), .own (.dct (onceD n')), .own (.lst (n'.map Piece.enc)), .val (Piece.value k i v).enc, .val (placeD (.value k i v))]), ?_, dn ++ [.value k i v], n', _, _, hd2, hs.trans (List.sublist_append_left _ _), ho, rfl, rfl, rfl⟩
        have lk := onceD_look n' (placeK (.value k i v))
        obtain ⟨d, hd⟩ := lk.2 (.value k i w) hw rfl
        obtain ⟨p', hp', e, rfl⟩ := lk.1 d hd
        obtain ⟨w', rfl⟩ := placeK_value e
        have e' := ho k i w w' hw hp'
        subst e'
        have ge : gEq (Piece.value k i w).enc (Piece.value k i v).enc = some (.bool false) := by simp [ne]
        have ix := ix0_enc (.value k i v)
        have nv := ne_val (.value k i v)
        have q : isVal (.value k i v) = true := rfl
        rw [q] at nv
        have hd' : kLook (onceD n') (placeK (.value k i v)) = some (Piece.value k i w).enc := hd
        simp [fa, fb, l1__law_once, sl, kp, ix, nv, hd', ge])
    (fun ρ ⟨dn, n', a, b, hd, hs, ho, fa, fb, e⟩ => ⟨n', onceD n', a, b, by simp at hd; rw [← hd]; exact hs, ho, by rw [e]⟩)
  refine ⟨n', hs, ho, ?_⟩
  have e3 : ∀ n, encN n = .list (n.map Piece.enc) := fun _ => rfl
  have s0 : (0 : Nat) ≤ sizeLine := Nat.zero_le _
  simp [e3] at e1
  simp [d__law_once, b__law_once, e3, e1, backIn]

theorem e_news {o : List PyData} (ho : DrawOk o) {sh : List Ky} {h : Hist} (hl : h.length ≤ 100) (hg : ∀ c ∈ h, GoodC sh c) (sne : sh ≠ []) (sl : sh.length ≤ 100) (hw : ∀ k, (writesOf h k).length ≤ 10000) {m : Nat} (hm : m ≤ 50) :
    ∃ n : List Piece, n.length ≤ m ∧ OneValue n ∧ (∀ p ∈ n, WfP sh h.length p ∧ isTrue h p = true) ∧ ∃ o', DrawOk o' ∧ d__law_news [.io (.lst o), .val (kds sh), .val (encH h), .val (.int m)] = some (.val (encN n), [.io (.lst o'), .val (kds sh), .val (encH h), .val (.int m)]) := by
  have s0 : (0 : Nat) ≤ sizeLine := Nat.zero_le _
  have e3 : encH h = .list (h.map encC) := rfl
  by_cases hne : h = []
  · subst hne
    refine ⟨[], by simp, (by intro k i v w h; cases h), by simp, o, ho, ?_⟩
    simp [d__law_news, b__law_news, encH, encN, backIn]
  · obtain ⟨r, o1, a1, b1, h1, n1⟩ := e_next ho (m := (m : Int) + 1) (by omega) (by omega)
    obtain ⟨p, ec, n, o2, hnl, hnp, h2, rfl⟩ := ok_comp (g := gNm 4) (t := tYesM) (m := c1__law_news) (vs := [4]) (enc := fun (i : Nat) => .int (0 + i)) (xs := List.range r.toNat) (ρ := [.io (.lst o1), .val (kds sh), .val (encH h), .val (.int m), .un])
      (Post := fun p => ∃ (n : List Piece) (o2 : List PyData), n.length = r.toNat ∧ (∀ p ∈ n, WfP sh h.length p ∧ isTrue h p = true) ∧ DrawOk o2 ∧ p = (n.map Piece.enc, [.io (.lst o2), .val (kds sh), .val (encH h), .val (.int m), .un]))
      (fun dn ds ρ => ∃ (n : List Piece) (o2 : List PyData), n.length = dn.length ∧ (∀ p ∈ n, WfP sh h.length p ∧ isTrue h p = true) ∧ DrawOk o2 ∧ ds = n.map Piece.enc ∧ ρ = [.io (.lst o2), .val (kds sh), .val (encH h), .val (.int m), .un])
      ⟨[], o1, rfl, by simp, h1, rfl, rfl⟩ (fun i l ds ρ hi ⟨n, o2, hnl, hnp, h2, hd, hr⟩ => by
        subst hr hd
        obtain ⟨p, wf, tr, o3, h3, e⟩ := e_told h2 hne hl hg sne sl hw
        refine ⟨(some p.enc, [.io (.lst o3), .val (kds sh), .val (encH h), .val (.int m), .un]), by simp [stepD, c1__law_news, e, iosOf, mkIn, putB], n ++ [p], o3, by simp [hnl], fun x hx => ?_, h3, by simp, rfl⟩
        rcases List.mem_append.mp hx with hx | hx
        · exact hnp x hx
        · rw [List.mem_singleton.mp hx]; exact ⟨wf, tr⟩)
      (fun ds ρ ⟨n, o2, hnl, hnp, h2, hd, hr⟩ => ⟨n, o2, by simpa using hnl, hnp, h2, by rw [hd, hr]⟩)
    obtain ⟨n', hs, hov, eo⟩ := e_once n (by omega)
    refine ⟨n', by have := hs.length_le; omega, hov, fun p hp => hnp p (hs.subset hp), o2, h2, ?_⟩
    have l1 : r ≤ 16777216 := by omega
    have l2 : -(4611686018427387904 : Int) ≤ r := by omega
    have en : ∀ n, encN n = .list (n.map Piece.enc) := fun _ => rfl
    have tr : (h.map encC).isEmpty = false := by cases h with | nil => exact absurd rfl hne | cons _ _ => rfl
    simp only [Int.zero_add] at ec
    simp only [en] at eo
    rw [e3] at ec ⊢
    have td : truD (.list (h.map encC)) = some true := by rw [truD_l, tr]; rfl
    simp [d__law_news, b__law_news, td, n1, rngD, l1, l2, ec, eo, iosOf, mkIn, putB, backIn]
    rfl
end Vw
/-! Va5: the law's own stretches, cells, bounds. -/
namespace Vw
open PySem PySem.Spec L2 Vx

def lcell (n : List Piece) (v : Int) (k : Ky) : Int := if isShut n v k = true then 0 else if isDue n v k = true then 2 else 1
theorem e_law_cell (n : List Piece) (v : Int) (k : Ky) : d__law_cell [.val (encN n), .val (.int v), .val (kd k)] = some (.val (.int (lcell n v k)), [.val (encN n), .val (.int v), .val (kd k)]) := by
  have s2 : (2 : Nat) ≤ sizeLine := small_line 2 (by decide)
  have s3 : (3 : Nat) ≤ sizeLine := small_line 3 (by decide)
  have gd : ∀ p : Piece, gEq p.enc (.tuple [.str "did", .int v, .str k.s]) = some (.bool (decide (p = .did v k))) := fun p => gEq_enc p (.did v k)
  obtain ⟨p, e1, e2⟩ := ok_loop (g := gNm 4) (m := l1__law_cell) (enc := Piece.enc) (xs := n) (ρ := [.val (encN n), .val (.int v), .val (kd k), .val (.int 1), .un])
    (Post := fun p => ∃ a, (p = (.rt (.val (.int 0)), [.val (encN n), .val (.int v), .val (kd k), a, .un]) ∨ True) ∧ ((isShut n v k = true ∧ p.1 = .rt (.val (.int 0)) ∧ ∃ a b, p.2 = [.val (encN n), .val (.int v), .val (kd k), a, b]) ∨ (isShut n v k = false ∧ ∃ b, p = (.nx, [.val (encN n), .val (.int v), .val (kd k), .val (.int (if isDue n v k = true then 2 else 1)), b]))))
    (fun rest ρ => ∃ (dn : List Piece) (a : Sl), dn ++ rest = n ∧ isShut dn v k = false ∧ fr a = true ∧ ρ = [.val (encN n), .val (.int v), .val (kd k), .val (.int (if isDue dn v k = true then 2 else 1)), a])
    ⟨[], .un, rfl, rfl, rfl, rfl⟩ (fun p rest ρ hp ⟨dn, a, hd, hs, fa, e⟩ => by
      subst e
      cases q : shutP v k p with
      | true =>
        refine ⟨(.rt (.val (.int 0)), [.val (encN n), .val (.int v), .val (kd k), .val (.int (if isDue dn v k = true then 2 else 1)), .val p.enc]), ?_, .un, .inr trivial, .inl ⟨?_, rfl, _, _, rfl⟩⟩
        · cases p <;> simp [shutP] at q <;> simp [fa, l1__law_cell, Piece.enc, s2, q]
        · rw [← hd]; simp [isShut, q]
      | false =>
        have hs2 : isShut (dn ++ [p]) v k = false := by simp [isShut] at hs ⊢; exact ⟨hs, q⟩
        refine ⟨(.nx, [.val (encN n), .val (.int v), .val (kd k), .val (.int (if isDue (dn ++ [p]) v k = true then 2 else 1)), .val p.enc]), ?_, dn ++ [p], _, by simpa using hd, hs2, rfl, rfl⟩
        have hdue : isDue (dn ++ [p]) v k = (isDue dn v k || dueP v k p) := by simp [isDue]
        have gdp := gd p
        rw [hdue]
        cases p with
        | wrote v' ks =>
          simp [shutP] at q
          by_cases e : v' = v
          · simp [fa, l1__law_cell, Piece.enc, s2, e, q e, dueP]
          · have gq : gEq (Piece.wrote v' ks).enc (.tuple [.str "did", .int v, .str k.s]) = some (.bool false) := by rw [gdp]; simp
            simp [Piece.enc] at gq
            simp [fa, l1__law_cell, Piece.enc, s2, s3, e, dueP, gq]
        | among v' ks =>
          simp [shutP] at q
          have gq : gEq (Piece.among v' ks).enc (.tuple [.str "did", .int v, .str k.s]) = some (.bool false) := by rw [gdp]; simp
          simp [Piece.enc] at gq
          by_cases e : v' = v
          · simp [fa, l1__law_cell, Piece.enc, s2, s3, e, q e, dueP]
            rw [e] at gq
            simp [gq]
          · simp [fa, l1__law_cell, Piece.enc, s2, s3, e, dueP, gq]
        | did v' k' =>
          by_cases e : v' = v ∧ k' = k
          · obtain ⟨rfl, rfl⟩ := e
            have gq : gEq (Piece.did v' k').enc (.tuple [.str "did", .int v', .str k'.s]) = some (.bool true) := by rw [gdp]; simp
            simp [Piece.enc] at gq
            simp [fa, l1__law_cell, Piece.enc, s2, s3, dueP, gq]
          · have gq : gEq (Piece.did v' k').enc (.tuple [.str "did", .int v, .str k.s]) = some (.bool false) := by rw [gdp]; simp; exact fun a b => e ⟨a, b⟩
            simp [Piece.enc] at gq
            have e2 : (decide (v' = v) && decide (k' = k)) = false := by simp; exact fun a b => e ⟨a, b⟩
            simp [fa, l1__law_cell, Piece.enc, s2, s3, dueP, gq, e2]
        | head v' =>
          have gq : gEq (Piece.head v').enc (.tuple [.str "did", .int v, .str k.s]) = some (.bool false) := by rw [gdp]; simp
          simp [Piece.enc] at gq
          simp [fa, l1__law_cell, Piece.enc, s2, s3, dueP, gq]
        | times k' v' m =>
          have gq : gEq (Piece.times k' v' m).enc (.tuple [.str "did", .int v, .str k.s]) = some (.bool false) := by rw [gdp]; simp
          simp [Piece.enc] at gq
          simp [fa, l1__law_cell, Piece.enc, s2, s3, dueP, gq]
        | value k' v' m =>
          have gq : gEq (Piece.value k' v' m).enc (.tuple [.str "did", .int v, .str k.s]) = some (.bool false) := by rw [gdp]; simp
          simp [Piece.enc] at gq
          simp [fa, l1__law_cell, Piece.enc, s2, s3, dueP, gq]
        | many v' m =>
          have gq : gEq (Piece.many v' m).enc (.tuple [.str "did", .int v, .str k.s]) = some (.bool false) := by rw [gdp]; simp
          simp [Piece.enc] at gq
          simp [fa, l1__law_cell, Piece.enc, s2, s3, dueP, gq])
    (fun ρ ⟨dn, a, hd, hs, fa, e⟩ => ⟨.un, .inr trivial, .inr (by simp at hd; subst hd; exact ⟨hs, a, by rw [e]⟩)⟩)
  have e3 : encN n = .list (n.map Piece.enc) := rfl
  obtain ⟨_, _, e2⟩ := e2
  unfold lcell
  rcases e2 with ⟨q, e4, a, b, e5⟩ | ⟨q, b, e4⟩
  · obtain ⟨p1, p2⟩ := p
    cases e4; cases e5
    simp [e3] at e1
    simp [d__law_cell, b__law_cell, e3, e1, q, backIn]
  · subst e4
    simp [e3] at e1
    simp [d__law_cell, b__law_cell, e3, e1, q, backIn]

theorem e_law_bounds (sh : List Ky) (n : List Piece) (v : Int) : d__law_bounds [.val (kds sh), .val (encN n), .val (.int v)] = some (.val (encB (boundsAt sh n v)), [.val (kds sh), .val (encN n), .val (.int v)]) := by
  have s2 : (2 : Nat) ≤ sizeLine := small_line 2 (by decide)
  obtain ⟨⟨f, ρ'⟩, e1, a, e2, e4⟩ := ok_loop (g := gNm 3) (m := l1__law_bounds) (enc := Piece.enc) (xs := n) (ρ := [.val (kds sh), .val (encN n), .val (.int v), .un])
    (Post := fun p => ∃ a, p.2 = [.val (kds sh), .val (encN n), .val (.int v), a] ∧ p.1 = match numbersAt n v with | m :: _ => .rt (.val (encB (m, m))) | [] => .nx)
    (fun rest ρ => ∃ a : Sl, numbersAt n v = numbersAt rest v ∧ fr a = true ∧ ρ = [.val (kds sh), .val (encN n), .val (.int v), a])
    ⟨.un, rfl, rfl, rfl⟩ (fun p rest ρ hp ⟨a, hh, fa, e⟩ => by
      subst e
      cases q : numP v p with
      | none =>
        refine ⟨(.nx, [.val (kds sh), .val (encN n), .val (.int v), .val p.enc]), ?_, .val p.enc, by rw [hh]; simp [numbersAt, q], rfl, rfl⟩
        cases p <;> simp [numP] at q <;> simp [fa, l1__law_bounds, Piece.enc, q]
      | some m =>
        refine ⟨(.rt (.val (encB (m, m))), [.val (kds sh), .val (encN n), .val (.int v), .val p.enc]), ?_, .val p.enc, rfl, by rw [hh]; simp [numbersAt, q]⟩
        cases p <;> simp [numP] at q <;> simp [fa, l1__law_bounds, Piece.enc, q, s2, encB])
    (fun ρ ⟨a, hh, fa, e⟩ => ⟨a, e, by rw [hh]; rfl⟩)
  have e3 : encN n = .list (n.map Piece.enc) := rfl
  dsimp only at e2 e4
  subst e2
  unfold boundsAt
  cases q : numbersAt n v with
  | nil =>
    rw [q] at e4
    dsimp only at e4
    subst e4
    simp [e3] at e1
    simp [d__law_bounds, b__law_bounds, e3, e1, backIn, s2, encB]
  | cons m ms =>
    rw [q] at e4
    dsimp only at e4
    subst e4
    simp [e3] at e1
    simp [d__law_bounds, b__law_bounds, e3, e1, backIn, s2, encB]

/-! ### stretches -/
theorem pairsS_snoc (k : Ky) : ∀ (m : List (Int × Int)) (a b : Int × Int), m.getLast? = some a → pairsS k (m ++ [b]) = pairsS k m ++ [⟨k, a.1 + 1, b.1, b.2 - a.2, b.2 - a.2⟩]
  | [], a, b, h => by simp at h
  | [x], a, b, h => by simp at h; subst h; rfl
  | x :: y :: r, a, b, h => by
    have := pairsS_snoc k (y :: r) a b (by simpa using h)
    show _ :: pairsS k ((y :: r) ++ [b]) = _
    rw [this]
    rfl
theorem marksD_keys (n : List Piece) (k : Ky) : ((marksD n k).map (·.1)).Nodup ∧ 0 ∈ (marksD n k).map (·.1) ∧ ∀ x ∈ (marksD n k).map (·.1), x = 0 ∨ ∃ m, (x, m) ∈ n.filterMap (timesP k) := by
  have : ∀ (xs : List (Int × Int)) (m : IK) (S : List (Int × Int)), (m.map (·.1)).Nodup → 0 ∈ m.map (·.1) → (∀ x ∈ m.map (·.1), x = 0 ∨ ∃ w, (x, w) ∈ S) →
      ((xs.foldl (fun m p => putI m p.1 p.2) m).map (·.1)).Nodup ∧ 0 ∈ (xs.foldl (fun m p => putI m p.1 p.2) m).map (·.1) ∧ ∀ x ∈ (xs.foldl (fun m p => putI m p.1 p.2) m).map (·.1), x = 0 ∨ ∃ w, (x, w) ∈ S ++ xs := by
    intro xs
    induction xs with
    | nil => intro m S h1 h2 h3; rw [List.append_nil]; exact ⟨h1, h2, h3⟩
    | cons x xs ih =>
      intro m S h1 h2 h3
      have key := putI_keys m x.1 x.2
      have := ih (putI m x.1 x.2) (S ++ [x]) (putI_nodup h1) (by rw [key]; split; exact h2; exact List.mem_append_left _ h2) (by
        rw [key]
        intro y hy
        have : y ∈ m.map (·.1) ∨ y = x.1 := by
          split at hy
          · exact .inl hy
          · rcases List.mem_append.mp hy with hy | hy
            · exact .inl hy
            · exact .inr (List.mem_singleton.mp hy)
        rcases this with hy | rfl
        · rcases h3 y hy with h | ⟨w, hw⟩
          · exact .inl h
          · exact .inr ⟨w, List.mem_append_left _ hw⟩
        · exact .inr ⟨x.2, by simp⟩)
      simpa using this
  have h := this (n.filterMap (timesP k)) [(0, 0)] [] (by simp) (by simp) (by simp)
  rw [List.nil_append] at h
  exact h
theorem sortI_strict {xs : List Int} (nd : xs.Nodup) : (sortI xs).Pairwise (· < ·) := by
  have h1 := sortI_sorted xs
  have h2 : (sortI xs).Nodup := (sortI_perm xs).nodup_iff.mpr nd
  have := h1.and (List.nodup_iff_pairwise_ne.mp h2)
  exact this.imp fun ⟨a, b⟩ => by omega
/-- the marks, the first is 0 -/
theorem marks_sorted (n : List Piece) (k : Ky) (h0 : ∀ p ∈ n, ∀ k v m, p = .times k v m → 0 ≤ v) : ∃ L, sortI ((marksD n k).map (·.1)) = 0 :: L ∧ (0 :: L).Pairwise (· < ·) ∧ ∀ x ∈ L, 0 < x := by
  obtain ⟨nd, z, hx⟩ := marksD_keys n k
  have st := sortI_strict nd
  have mem : ∀ x, x ∈ sortI ((marksD n k).map (·.1)) ↔ x ∈ (marksD n k).map (·.1) := fun x => (sortI_perm _).mem_iff
  have nn : ∀ x ∈ sortI ((marksD n k).map (·.1)), 0 ≤ x := fun x h => by
    rcases hx x ((mem x).mp h) with rfl | ⟨m, hm⟩
    · exact Int.le_refl _
    · obtain ⟨p, hp, e⟩ := List.mem_filterMap.mp hm
      cases p with
      | times k' v m' =>
        simp [timesP] at e
        obtain ⟨_, rfl, rfl⟩ := e
        exact h0 _ hp k' v m' rfl
      | _ => simp [timesP] at e
  cases q : sortI ((marksD n k).map (·.1)) with
  | nil => have := (mem 0).mpr z; rw [q] at this; cases this
  | cons y L =>
    rw [q] at st nn
    have hz : (0 : Int) ∈ y :: L := by rw [← q]; exact (mem 0).mpr z
    have : y = 0 := by
      rcases List.mem_cons.mp hz with h | h
      · exact h.symm
      · have h1 := (List.pairwise_cons.mp st).1 0 h
        have h2 := nn y (by simp)
        omega
    subst this
    exact ⟨L, rfl, st, (List.pairwise_cons.mp st).1⟩
theorem e_law_stretches (sh : List Ky) (n : List Piece) (hn : n.length < 63) (hs : sh.length ≤ 100) (h0 : ∀ p ∈ n, ∀ k v m, p = .times k v m → 0 ≤ v) : d__law_stretches [.val (kds sh), .val (encN n)] = some (.val (.list ((stretchesL sh n).map encS)), [.val (kds sh), .val (encN n)]) := by
  have s100 := small_line 100 (by decide)
  have s5 : (5 : Nat) ≤ sizeLine := small_line 5 (by decide)
  have hh := e_law_head n
  -- the marks
  have mk : ∀ (k : Ky) (F : List PyData) (B a b c : Sl), fr a = true → Ok (loopD (gNm 5) l1__law_stretches (n.map Piece.enc) [.val (kds sh), .val (encN n), .own (.lst F), .val (kd k), .own (.dct (encIK [(0, 0)])), a, b, c]) fun p => ∃ a, fr a = true ∧ p = (.nx, [.val (kds sh), .val (encN n), .own (.lst F), .val (kd k), .own (.dct (encIK (marksD n k))), a, b, c]) := fun k F B a b c fa =>
    ok_loop (fun rest ρ => ∃ (dn : List Piece) (a : Sl), dn ++ rest = n ∧ fr a = true ∧ ρ = [.val (kds sh), .val (encN n), .own (.lst F), .val (kd k), .own (.dct (encIK (marksD dn k))), a, b, c])
    ⟨[], a, rfl, fa, rfl⟩ (fun p rest ρ hp ⟨dn, a, hd, fa, e⟩ => by
      subst e
      have hl := marksD_len dn k
      have hl2 : dn.length < 63 := by have := congrArg List.length hd; simp at this; omega
      refine ⟨(.nx, [.val (kds sh), .val (encN n), .own (.lst F), .val (kd k), .own (.dct (encIK (marksD (dn ++ [p]) k))), .val p.enc, b, c]), ?_, dn ++ [p], _, by simpa using hd, rfl, rfl⟩
      cases q : timesP k p with
      | none =>
        have hm : marksD (dn ++ [p]) k = marksD dn k := by simp [marksD, List.filterMap_append, q]
        rw [hm]
        cases p <;> simp [timesP] at q <;> simp [fa, l1__law_stretches, Piece.enc, q]
      | some vm =>
        have hm : marksD (dn ++ [p]) k = putI (marksD dn k) vm.1 vm.2 := by simp [marksD, List.filterMap_append, q]
        rw [hm]
        have hp := putI_len (marksD dn k) vm.1 vm.2
        have hz : (putI (marksD dn k) vm.1 vm.2).length ≤ sizeLine := by omega
        cases p <;> simp [timesP] at q
        obtain ⟨rfl, rfl⟩ := q
        simp [fa, l1__law_stretches, Piece.enc, hz, updD])
    (fun ρ ⟨dn, a, hd, fa, e⟩ => ⟨a, fa, by rw [e]; simp at hd; rw [hd]⟩)
  -- the pairs
  have pr : ∀ (k : Ky) (F : List Stretch) (a b : Sl), F.length ≤ 10000 → fr b = true → ∀ (L : List Int), sortI ((marksD n k).map (·.1)) = 0 :: L → (0 :: L).Pairwise (· < ·) → Ok (loopD (gNm 7) l2__law_stretches ((0 :: L).map .int) [.val (kds sh), .val (encN n), .own (.lst (F.map encS)), .val (kd k), .own (.dct (encIK (marksD n k))), a, .val (.int 0), b])
      fun p => ∃ b, fr b = true ∧ p = (.nx, [.val (kds sh), .val (encN n), .own (.lst ((F ++ pairsS k (marksOf n k)).map encS)), .val (kd k), .own (.dct (encIK (marksD n k))), a, .val (.int (lastM (marksOf n k))), b]) := fun k F a b hF fb L hL hp => by
    have hmo : marksOf n k = (0 :: L).map fun i => (i, (lookI (marksD n k) i).getD 0) := by rw [marksOf, hL]
    have hll : (0 :: L).length < 64 := by rw [← hL, sortI_len, List.length_map]; have := marksD_len n k; omega
    have lk : ∀ i ∈ 0 :: L, ∃ w, lookI (marksD n k) i = some w := fun i hi => by
      rw [← hL] at hi
      have hi2 : i ∈ (marksD n k).map (·.1) := (sortI_perm _).mem_iff.mp hi
      cases q : lookI (marksD n k) i with
      | none => exact absurd hi2 (lookI_none.mp q)
      | some w => exact ⟨w, rfl⟩
    rw [hmo]
    obtain ⟨f, hf⟩ : ∃ f : Int → Int × Int, f = fun i => (i, (lookI (marksD n k) i).getD 0) := ⟨_, rfl⟩
    rw [← hf]
    have f1 : ∀ i, (f i).1 = i := fun i => by rw [hf]
    have f2 : ∀ i w, lookI (marksD n k) i = some w → (f i).2 = w := fun i w h => by rw [hf]; simp [h]
    refine ok_loop (fun rest ρ => ∃ (dn : List Int) (b : Sl), dn ++ rest = 0 :: L ∧ fr b = true ∧ ρ = [.val (kds sh), .val (encN n), .own (.lst ((F ++ pairsS k (dn.map f)).map encS)), .val (kd k), .own (.dct (encIK (marksD n k))), a, .val (.int ((dn.getLast?).getD 0)), b])
      ⟨[], b, rfl, fb, by simp [pairsS]⟩ (fun x rest ρ hx ⟨dn, b, hd, fb, e⟩ => by
        subst e
        obtain ⟨w, hw⟩ := lk x hx
        have hdl : dn.length < 64 := by have := congrArg List.length hd; simp at this hll; omega
        cases q : dn.getLast? with
        | none =>
          have : dn = [] := List.getLast?_eq_none_iff.mp q
          subst this
          have hx0 : x = 0 := by simpa using congrArg List.head? hd
          subst hx0
          refine ⟨(.nx, [.val (kds sh), .val (encN n), .own (.lst ((F ++ pairsS k (([] ++ [(0 : Int)]).map f)).map encS)), .val (kd k), .own (.dct (encIK (marksD n k))), a, .val (.int 0), .val (.int 0)]), ?_, [] ++ [(0 : Int)], .val (.int 0), by simpa using hd, rfl, by simp⟩
          simp [fb, l2__law_stretches, pairsS]
        | some y =>
          have hy : y ∈ dn := List.mem_of_getLast? q
          have hxy : y < x := by
            rw [← hd] at hp
            exact (List.pairwise_append.mp hp).2.2 y hy x (by simp)
          have hy0 : 0 ≤ y := by
            have : y ∈ 0 :: L := by rw [← hd]; exact List.mem_append_left _ hy
            rcases List.mem_cons.mp this with rfl | h
            · exact Int.le_refl _
            · have := (List.pairwise_cons.mp hp).1 y h; omega
          obtain ⟨wy, hwy⟩ := lk y (by rw [← hd]; exact List.mem_append_left _ hy)
          have q' : (dn.map f).getLast? = some (f y) := by rw [List.getLast?_map, q]; rfl
          have sn := pairsS_snoc k (dn.map f) (f y) (f x) q'
          rw [f1, f1, f2 x w hw, f2 y wy hwy] at sn
          have hpl := pairsS_len k (dn.map f)
          rw [List.length_map] at hpl
          have hsz : F.length + (pairsS k (dn.map f)).length < sizeLine := by rw [sizeLine_eq]; omega
          refine ⟨(.nx, [.val (kds sh), .val (encN n), .own (.lst ((F ++ pairsS k ((dn ++ [x]).map f)).map encS)), .val (kd k), .own (.dct (encIK (marksD n k))), a, .val (.int x), .val (.int x)]), ?_, dn ++ [x], .val (.int x), by simpa using hd, rfl, by simp⟩
          have sn2 : pairsS k ((dn ++ [x]).map f) = pairsS k (dn.map f) ++ [⟨k, y + 1, x, w - wy, w - wy⟩] := by rw [← sn, List.map_append]; rfl
          rw [sn2]
          have hx0 : 0 < x := by omega
          simp [fb, l2__law_stretches, hx0, hw, hwy, s5, hsz, updL, encS])
      (fun ρ ⟨dn, b, hd, fb, e⟩ => ⟨b, fb, by
        simp at hd
        subst hd
        rw [e]
        have : lastM ((0 :: L).map f) = (((0 :: L).getLast?).getD 0) := by
          unfold lastM
          rw [List.getLast?_map]
          cases (0 :: L).getLast? with
          | none => rfl
          | some y => exact f1 y
        rw [this]⟩)
  obtain ⟨p, e1, a, b, c, d, g, rfl⟩ := ok_loop (g := gNm 3) (m := l3__law_stretches) (enc := kd) (xs := sh) (ρ := [.val (kds sh), .val (encN n), .own (.lst []), .un, .un, .un, .un, .un])
    (Post := fun p => ∃ a b c d g, p = (.nx, [.val (kds sh), .val (encN n), .own (.lst ((stretchesL sh n).map encS)), a, b, c, d, g]))
    (fun rest ρ => ∃ (dn : List Ky) (a b c d g : Sl), dn ++ rest = sh ∧ fr a = true ∧ fr b = true ∧ fr c = true ∧ fr d = true ∧ fr g = true ∧ ρ = [.val (kds sh), .val (encN n), .own (.lst ((stretchesL dn n).map encS)), a, b, c, d, g])
    ⟨[], .un, .un, .un, .un, .un, rfl, rfl, rfl, rfl, rfl, rfl, rfl⟩ (fun k rest ρ hk ⟨dn, a, b, c, d, g, hd, fa, fb, fc, fd, fg, e⟩ => by
      subst e
      obtain ⟨L, hL, hp, hpos⟩ := marks_sorted n k h0
      have hdl : dn.length ≤ 100 := by have := congrArg List.length hd; simp at this; omega
      have hsl := stretchesL_len dn n
      have h3 : dn.length * (n.length + 1) ≤ 100 * 63 := Nat.mul_le_mul hdl (by omega)
      obtain ⟨p1, q1, c', fc', rfl⟩ := mk k ((stretchesL dn n).map encS) .un c d g fc
      obtain ⟨p2, q2, g', fg', rfl⟩ := pr k (stretchesL dn n) c' g (by omega) fg L hL hp
      have so : stretchesL (dn ++ [k]) n = (stretchesL dn n ++ pairsS k (marksOf n k)) ++ tailS k (lastM (marksOf n k)) (headOf n) := by simp [stretchesL, stretchesOf]
      have hml := pairsS_len k (marksOf n k)
      have hml2 := marksD_len n k
      rw [← marksOf_len] at hml2
      refine ⟨(.nx, [.val (kds sh), .val (encN n), .own (.lst ((stretchesL (dn ++ [k]) n).map encS)), .val (kd k), .own (.dct (encIK (marksD n k))), c', .val (.int (lastM (marksOf n k))), g']), ?_, dn ++ [k], _, _, _, _, _, by simpa using hd, rfl, rfl, fc', rfl, fg', rfl⟩
      rw [so]
      have ns := nums_encIK (marksD n k)
      have ks := keys_encIK (marksD n k)
      have gs := gSorted_map ((marksD n k).map (·.1))
      rw [hL] at gs
      have e3 : encN n = .list (n.map Piece.enc) := rfl
      have hsz : (stretchesL dn n).length + (pairsS k (marksOf n k)).length < sizeLine := by rw [sizeLine_eq]; omega
      rw [e3] at q1 q2 hh ⊢
      have fdd : fr (.val (.int 0)) = true := rfl
      obtain ⟨D, hD⟩ : ∃ D, D = ((0 :: L).map PyData.int) := ⟨_, rfl⟩
      rw [← hD] at gs q2
      have kk : (encIK (marksD n k)).map (fun q => q.1.data) = ((marksD n k).map (·.1)).map .int := ks
      have gsk : gSorted [.list ((encIK (marksD n k)).map (fun q => q.1.data))] = some D := by rw [kk]; exact gs
      unfold tailS
      by_cases q : lastM (marksOf n k) < headOf n
      · simp [fa, fb, fd, l3__law_stretches, encIK0, q1, gsk, q2, hh, iosOf, mkIn, putB, q, s5, hsz, updL, encS]
      · simp [fa, fb, fd, l3__law_stretches, encIK0, q1, gsk, q2, hh, iosOf, mkIn, putB, q])
    (fun ρ ⟨dn, a, b, c, d, g, hd, _, _, _, _, _, e⟩ => ⟨a, b, c, d, g, by rw [e]; simp at hd; rw [hd]⟩)
  have s0 : (0 : Nat) ≤ sizeLine := Nat.zero_le _
  simp [d__law_stretches, b__law_stretches, e1, backIn]
end Vw
/-! Va6: _law_right: the same as is_right. -/
namespace Vw
open PySem PySem.Spec L2 Vx

def bI (b : Bool) : Int := if b = true then 1 else 0
def ndS (n : List Piece) (p : Paper) (v : Int) (s : Stretch) : Int := bI (inS s v && (decide (v ∈ p.vers) != decide (triS s ∈ p.named)) && (if p.full = true then decide (triS s ∈ p.named) else !decide (triS s ∈ p.named)) && dueC n (v, s.key))
def rmS (n : List Piece) (p : Paper) (v : Int) (s : Stretch) : Int := bI (inS s v && (decide (v ∈ p.vers) != decide (triS s ∈ p.named)) && !(if p.full = true then decide (triS s ∈ p.named) else !decide (triS s ∈ p.named)) && openC n (v, s.key))
theorem ndS_def (n : List Piece) (p : Paper) (v : Int) (s : Stretch) : ndS n p v s = bI (inS s v && (decide (v ∈ p.vers) != decide (triS s ∈ p.named)) && (if p.full = true then decide (triS s ∈ p.named) else !decide (triS s ∈ p.named)) && dueC n (v, s.key)) := rfl
theorem rmS_def (n : List Piece) (p : Paper) (v : Int) (s : Stretch) : rmS n p v s = bI (inS s v && (decide (v ∈ p.vers) != decide (triS s ∈ p.named)) && !(if p.full = true then decide (triS s ∈ p.named) else !decide (triS s ∈ p.named)) && openC n (v, s.key)) := rfl
def ndV (sh : List Ky) (n : List Piece) (p : Paper) (v : Int) : Int := (if (decide (v ∈ p.vers) && p.full) = true then (boundsAt sh n v).1 else 0) + ((stretchesL sh n).map (ndS n p v)).sum
def rmV (sh : List Ky) (n : List Piece) (p : Paper) (v : Int) : Int := (if (decide (v ∈ p.vers) && !p.full) = true then (boundsAt sh n v).2 else 0) + ((stretchesL sh n).map (rmS n p v)).sum
def ndT (p : Paper) (s : Stretch) : Int := if (decide (triS s ∈ p.named) && !p.full) = true then s.least else 0
def rmT (p : Paper) (s : Stretch) : Int := if (decide (triS s ∈ p.named) && p.full) = true then s.most else 0
theorem ndT_def (p : Paper) (s : Stretch) : ndT p s = if (decide (triS s ∈ p.named) && !p.full) = true then s.least else 0 := rfl
theorem rmT_def (p : Paper) (s : Stretch) : rmT p s = if (decide (triS s ∈ p.named) && p.full) = true then s.most else 0 := rfl
def lawRight (sh : List Ky) (n : List Piece) (p : Paper) : Bool :=
  decide (((versL n).map (rmV sh n p)).sum + ((stretchesL sh n).map (rmT p)).sum < ((versL n).map (ndV sh n p)).sum + ((stretchesL sh n).map (ndT p)).sum)

theorem lcell_due (n : List Piece) (v : Int) (k : Ky) : decide (lcell n v k = 2) = dueC n (v, k) := by
  unfold lcell dueC
  cases isShut n v k <;> cases isDue n v k <;> rfl
theorem lcell_open (n : List Piece) (v : Int) (k : Ky) : decide (0 < lcell n v k) = openC n (v, k) := by
  unfold lcell openC
  cases isShut n v k <;> cases isDue n v k <;> rfl
def Junk (m : Nat) (J : List Sl) : Prop := J.length = m ∧ ∀ x ∈ J, fr x = true
theorem junk_of {α : Type} {dn rest S : List α} {F : List α → List Sl} {m : Nat} (l : Rho) (hd : dn ++ rest = S) (h1 : l.take (F dn).length = F dn) (h2 : Junk m (l.drop (F dn).length)) : ∃ (dn : List α) (J : List Sl), dn ++ rest = S ∧ Junk m J ∧ l = F dn ++ J :=
  ⟨dn, l.drop (F dn).length, hd, h2, by conv => lhs; rw [← List.take_append_drop (F dn).length l, h1]⟩
theorem e_law_right (sh : List Ky) (n : List Piece) (p : Paper) (hn : n.length < 63) (hs : sh.length ≤ 100) (hh : headOf n ≤ 100) (h0 : ∀ p ∈ n, ∀ k v m, p = .times k v m → 0 ≤ v) :
    d__law_right [.val (kds sh), .val (encN n), .val (encPaper p)] = some (.val (.bool (lawRight sh n p)), [.val (kds sh), .val (encN n), .val (encPaper p)]) := by
  have s3 : (3 : Nat) ≤ sizeLine := small_line 3 (by decide)
  have hp0 := headOf_nn n
  have eh := e_law_head n
  have es := e_law_stretches sh n hn hs h0
  have eb := fun v => e_law_bounds sh n v
  have ec := fun v k => e_law_cell n v k
  have hndV : ∀ v, ndV sh n p v = (if (decide (v ∈ p.vers) && p.full) = true then (boundsAt sh n v).1 else 0) + ((stretchesL sh n).map (ndS n p v)).sum := fun _ => rfl
  have hrmV : ∀ v, rmV sh n p v = (if (decide (v ∈ p.vers) && !p.full) = true then (boundsAt sh n v).2 else 0) + ((stretchesL sh n).map (rmS n p v)).sum := fun _ => rfl
  have hlr : lawRight sh n p = decide (((versL n).map (rmV sh n p)).sum + ((stretchesL sh n).map (rmT p)).sum < ((versL n).map (ndV sh n p)).sum + ((stretchesL sh n).map (ndT p)).sum) := rfl
  obtain ⟨S, hS⟩ : ∃ S, S = stretchesL sh n := ⟨_, rfl⟩
  obtain ⟨N, hN⟩ : ∃ N, N = encN n := ⟨_, rfl⟩
  obtain ⟨A, hA⟩ : ∃ A, A = kds sh := ⟨_, rfl⟩
  obtain ⟨V, hV⟩ : ∃ V, V = PyData.tuple (p.vers.map .int) := ⟨_, rfl⟩
  obtain ⟨M, hM⟩ : ∃ M, M = PyData.tuple (p.named.map encT) := ⟨_, rfl⟩
  obtain ⟨P, hP⟩ : ∃ P, P = PyData.tuple [.str (kindS p.full), V, M] := ⟨_, rfl⟩
  have hPe : encPaper p = P := by rw [hP, hV, hM]; rfl
  rw [← hS] at es hlr
  simp only [← hS] at hndV hrmV
  rw [← hN] at eh
  rw [← hN, ← hA] at es
  simp only [← hN] at ec
  simp only [← hN, ← hA] at eb
  rw [← hN, ← hA, hPe]
  have gV : ∀ v, gIn (.int v) V = some (.bool (decide (v ∈ p.vers))) := fun v => by rw [hV]; exact gIn_I v p.vers
  have gM : ∀ s : Stretch, gIn (.tuple [.str s.key.s, .int s.first, .int s.last]) M = some (.bool (decide (triS s ∈ p.named))) := fun s => by rw [hM]; exact gIn_T (triS s) p.named
  have kf : gEq (.str (kindS p.full)) (.str "full") = some (.bool p.full) := by cases p.full <;> kernel_rfl
  have ke : gEq (.str (kindS p.full)) (.str "empty") = some (.bool !p.full) := by cases p.full <;> kernel_rfl
  obtain ⟨kd0, hkd⟩ : ∃ x, x = PyData.str (kindS p.full) := ⟨_, rfl⟩
  rw [← hkd] at kf ke
  have nt : ∀ b : Bool, dNot (dVar 16) = dNot (dVar 16) := fun _ => rfl
  -- over the stretches
  have inner : ∀ (v a b : Int) (J : List Sl), Junk 8 J → Ok (loopD (gTp [gNm 10, gNm 11, gNm 12, gNm 13, gNm 14]) l1__law_right (S.map encS) ([.val A, .val N, .val P, .val kd0, .val V, .val M, .val (.list (S.map encS)), .val (.int a), .val (.int b), .val (.int v)] ++ J)) fun q => ∃ J, Junk 8 J ∧ q = (.nx, [.val A, .val N, .val P, .val kd0, .val V, .val M, .val (.list (S.map encS)), .val (.int (a + (S.map (ndS n p v)).sum)), .val (.int (b + (S.map (rmS n p v)).sum)), .val (.int v)] ++ J) := fun v a b J hJ =>
    ok_loop (fun rest ρ => ∃ (dn : List Stretch) (J : List Sl), dn ++ rest = S ∧ Junk 8 J ∧ ρ = [.val A, .val N, .val P, .val kd0, .val V, .val M, .val (.list (S.map encS)), .val (.int (a + (dn.map (ndS n p v)).sum)), .val (.int (b + (dn.map (rmS n p v)).sum)), .val (.int v)] ++ J)
      ⟨[], J, rfl, hJ, by simp⟩ (fun s rest ρ _ ⟨dn, J, hd, ⟨hJl, hJf⟩, e⟩ => by
        subst e
        obtain ⟨j0, j1, j2, j3, j4, j5, j6, j7, rfl⟩ : ∃ j0 j1 j2 j3 j4 j5 j6 j7, J = [j0, j1, j2, j3, j4, j5, j6, j7] := by
          match J, hJl with
          | [j0, j1, j2, j3, j4, j5, j6, j7], _ => exact ⟨_, _, _, _, _, _, _, _, rfl⟩
        simp only [List.mem_cons, List.not_mem_nil, or_false, forall_eq_or_imp, forall_eq] at hJf
        obtain ⟨f0, f1, f2, f3, f4, f5, f6, f7⟩ := hJf
        have hd2 : (dn ++ [s]) ++ rest = S := by simpa using hd
        have hnd : ((dn ++ [s]).map (ndS n p v)).sum = (dn.map (ndS n p v)).sum + ndS n p v s := by simp
        have hrm : ((dn ++ [s]).map (rmS n p v)).sum = (dn.map (rmS n p v)).sum + rmS n p v s := by simp
        have gMs := gM s
        have ecs := ec v s.key
        have cd := lcell_due n v s.key
        have co := lcell_open n v s.key
        by_cases q1 : s.first ≤ v
        · by_cases q2 : v ≤ s.last
          · have qi : inS s v = true := by simp [inS, q1, q2]
            have gVv := gV v
            have n1 := ndS_def n p v s
            have n2 := rmS_def n p v s
            rw [qi] at n1 n2
            cases q3 : decide (v ∈ p.vers) <;> cases q4 : decide (triS s ∈ p.named) <;> rw [q3, q4] at n1 n2 <;> rw [q3] at gVv <;> rw [q4] at gMs
            · simp [bI] at n1 n2
              rw [n1] at hnd
              rw [n2] at hrm
              refine ⟨_, by simp [f0, f1, f2, f3, f4, f5, f6, f7, l1__law_right, encS, q1, q2, ecs, gMs, gVv, kf, iosOf, mkIn, putB, s3]; rfl, ?_⟩
              refine junk_of (F := fun dn => [.val A, .val N, .val P, .val kd0, .val V, .val M, .val (.list (S.map encS)), .val (.int (a + (dn.map (ndS n p v)).sum)), .val (.int (b + (dn.map (rmS n p v)).sum)), .val (.int v)]) _ hd2 ?_ ⟨rfl, ?_⟩
              · rw [hnd, hrm]; simp [Int.add_assoc]
              · simp [f0, f1, f2, f3, f4, f5, f6, f7]
            · cases q5 : p.full <;> rw [q5] at n1 n2 kf
              · cases q7 : openC n (v, s.key) <;> rw [q7] at n2 co <;> simp only [decide_eq_true_eq, decide_eq_false_iff_not] at co
                · simp [bI] at n1 n2
                  rw [n1] at hnd
                  rw [n2] at hrm
                  refine ⟨_, by simp [f0, f1, f2, f3, f4, f5, f6, f7, l1__law_right, encS, q1, q2, ecs, gMs, gVv, kf, co, iosOf, mkIn, putB, s3]; rfl, ?_⟩
                  refine junk_of (F := fun dn => [.val A, .val N, .val P, .val kd0, .val V, .val M, .val (.list (S.map encS)), .val (.int (a + (dn.map (ndS n p v)).sum)), .val (.int (b + (dn.map (rmS n p v)).sum)), .val (.int v)]) _ hd2 ?_ ⟨rfl, ?_⟩
                  · rw [hnd, hrm]; simp [Int.add_assoc]
                  · simp [f0, f1, f2, f3, f4, f5, f6, f7]
                · simp [bI] at n1 n2
                  rw [n1] at hnd
                  rw [n2] at hrm
                  refine ⟨_, by simp [f0, f1, f2, f3, f4, f5, f6, f7, l1__law_right, encS, q1, q2, ecs, gMs, gVv, kf, co, iosOf, mkIn, putB, s3]; rfl, ?_⟩
                  refine junk_of (F := fun dn => [.val A, .val N, .val P, .val kd0, .val V, .val M, .val (.list (S.map encS)), .val (.int (a + (dn.map (ndS n p v)).sum)), .val (.int (b + (dn.map (rmS n p v)).sum)), .val (.int v)]) _ hd2 ?_ ⟨rfl, ?_⟩
                  · rw [hnd, hrm]; simp [Int.add_assoc]
                  · simp [f0, f1, f2, f3, f4, f5, f6, f7]
              · cases q6 : dueC n (v, s.key) <;> rw [q6] at n1 cd <;> simp only [decide_eq_true_eq, decide_eq_false_iff_not] at cd
                · simp [bI] at n1 n2
                  rw [n1] at hnd
                  rw [n2] at hrm
                  refine ⟨_, by simp [f0, f1, f2, f3, f4, f5, f6, f7, l1__law_right, encS, q1, q2, ecs, gMs, gVv, kf, cd, iosOf, mkIn, putB, s3]; rfl, ?_⟩
                  refine junk_of (F := fun dn => [.val A, .val N, .val P, .val kd0, .val V, .val M, .val (.list (S.map encS)), .val (.int (a + (dn.map (ndS n p v)).sum)), .val (.int (b + (dn.map (rmS n p v)).sum)), .val (.int v)]) _ hd2 ?_ ⟨rfl, ?_⟩
                  · rw [hnd, hrm]; simp [Int.add_assoc]
                  · simp [f0, f1, f2, f3, f4, f5, f6, f7]
                · simp [bI] at n1 n2
                  rw [n1] at hnd
                  rw [n2] at hrm
                  refine ⟨_, by simp [f0, f1, f2, f3, f4, f5, f6, f7, l1__law_right, encS, q1, q2, ecs, gMs, gVv, kf, cd, iosOf, mkIn, putB, s3]; rfl, ?_⟩
                  refine junk_of (F := fun dn => [.val A, .val N, .val P, .val kd0, .val V, .val M, .val (.list (S.map encS)), .val (.int (a + (dn.map (ndS n p v)).sum)), .val (.int (b + (dn.map (rmS n p v)).sum)), .val (.int v)]) _ hd2 ?_ ⟨rfl, ?_⟩
                  · rw [hnd, hrm]; simp [Int.add_assoc]
                  · simp [f0, f1, f2, f3, f4, f5, f6, f7]
            · cases q5 : p.full <;> rw [q5] at n1 n2 kf
              · cases q6 : dueC n (v, s.key) <;> rw [q6] at n1 cd <;> simp only [decide_eq_true_eq, decide_eq_false_iff_not] at cd
                · simp [bI] at n1 n2
                  rw [n1] at hnd
                  rw [n2] at hrm
                  refine ⟨_, by simp [f0, f1, f2, f3, f4, f5, f6, f7, l1__law_right, encS, q1, q2, ecs, gMs, gVv, kf, cd, iosOf, mkIn, putB, s3]; rfl, ?_⟩
                  refine junk_of (F := fun dn => [.val A, .val N, .val P, .val kd0, .val V, .val M, .val (.list (S.map encS)), .val (.int (a + (dn.map (ndS n p v)).sum)), .val (.int (b + (dn.map (rmS n p v)).sum)), .val (.int v)]) _ hd2 ?_ ⟨rfl, ?_⟩
                  · rw [hnd, hrm]; simp [Int.add_assoc]
                  · simp [f0, f1, f2, f3, f4, f5, f6, f7]
                · simp [bI] at n1 n2
                  rw [n1] at hnd
                  rw [n2] at hrm
                  refine ⟨_, by simp [f0, f1, f2, f3, f4, f5, f6, f7, l1__law_right, encS, q1, q2, ecs, gMs, gVv, kf, cd, iosOf, mkIn, putB, s3]; rfl, ?_⟩
                  refine junk_of (F := fun dn => [.val A, .val N, .val P, .val kd0, .val V, .val M, .val (.list (S.map encS)), .val (.int (a + (dn.map (ndS n p v)).sum)), .val (.int (b + (dn.map (rmS n p v)).sum)), .val (.int v)]) _ hd2 ?_ ⟨rfl, ?_⟩
                  · rw [hnd, hrm]; simp [Int.add_assoc]
                  · simp [f0, f1, f2, f3, f4, f5, f6, f7]
              · cases q7 : openC n (v, s.key) <;> rw [q7] at n2 co <;> simp only [decide_eq_true_eq, decide_eq_false_iff_not] at co
                · simp [bI] at n1 n2
                  rw [n1] at hnd
                  rw [n2] at hrm
                  refine ⟨_, by simp [f0, f1, f2, f3, f4, f5, f6, f7, l1__law_right, encS, q1, q2, ecs, gMs, gVv, kf, co, iosOf, mkIn, putB, s3]; rfl, ?_⟩
                  refine junk_of (F := fun dn => [.val A, .val N, .val P, .val kd0, .val V, .val M, .val (.list (S.map encS)), .val (.int (a + (dn.map (ndS n p v)).sum)), .val (.int (b + (dn.map (rmS n p v)).sum)), .val (.int v)]) _ hd2 ?_ ⟨rfl, ?_⟩
                  · rw [hnd, hrm]; simp [Int.add_assoc]
                  · simp [f0, f1, f2, f3, f4, f5, f6, f7]
                · simp [bI] at n1 n2
                  rw [n1] at hnd
                  rw [n2] at hrm
                  refine ⟨_, by simp [f0, f1, f2, f3, f4, f5, f6, f7, l1__law_right, encS, q1, q2, ecs, gMs, gVv, kf, co, iosOf, mkIn, putB, s3]; rfl, ?_⟩
                  refine junk_of (F := fun dn => [.val A, .val N, .val P, .val kd0, .val V, .val M, .val (.list (S.map encS)), .val (.int (a + (dn.map (ndS n p v)).sum)), .val (.int (b + (dn.map (rmS n p v)).sum)), .val (.int v)]) _ hd2 ?_ ⟨rfl, ?_⟩
                  · rw [hnd, hrm]; simp [Int.add_assoc]
                  · simp [f0, f1, f2, f3, f4, f5, f6, f7]
            · simp [bI] at n1 n2
              rw [n1] at hnd
              rw [n2] at hrm
              refine ⟨_, by simp [f0, f1, f2, f3, f4, f5, f6, f7, l1__law_right, encS, q1, q2, ecs, gMs, gVv, kf, iosOf, mkIn, putB, s3]; rfl, ?_⟩
              refine junk_of (F := fun dn => [.val A, .val N, .val P, .val kd0, .val V, .val M, .val (.list (S.map encS)), .val (.int (a + (dn.map (ndS n p v)).sum)), .val (.int (b + (dn.map (rmS n p v)).sum)), .val (.int v)]) _ hd2 ?_ ⟨rfl, ?_⟩
              · rw [hnd, hrm]; simp [Int.add_assoc]
              · simp [f0, f1, f2, f3, f4, f5, f6, f7]
          · have qi : inS s v = false := by simp [inS, q1, q2]
            have n1 : ndS n p v s = 0 := by simp [ndS, qi, bI]
            have n2 : rmS n p v s = 0 := by simp [rmS, qi, bI]
            rw [n1, Int.add_zero] at hnd
            rw [n2, Int.add_zero] at hrm
            refine ⟨_, by simp [f0, f1, f2, f3, f4, f5, f6, f7, l1__law_right, encS, q1, q2]; rfl, ?_⟩
            refine junk_of (F := fun dn => [.val A, .val N, .val P, .val kd0, .val V, .val M, .val (.list (S.map encS)), .val (.int (a + (dn.map (ndS n p v)).sum)), .val (.int (b + (dn.map (rmS n p v)).sum)), .val (.int v)]) _ hd2 ?_ ⟨rfl, ?_⟩
            · rw [hnd, hrm]; rfl
            · simp [f0, f1, f2, f3, f4, f5, f6, f7]
        · have qi : inS s v = false := by simp [inS, q1]
          have n1 : ndS n p v s = 0 := by simp [ndS, qi, bI]
          have n2 : rmS n p v s = 0 := by simp [rmS, qi, bI]
          rw [n1, Int.add_zero] at hnd
          rw [n2, Int.add_zero] at hrm
          refine ⟨_, by simp [f0, f1, f2, f3, f4, f5, f6, f7, l1__law_right, encS, q1]; rfl, ?_⟩
          refine junk_of (F := fun dn => [.val A, .val N, .val P, .val kd0, .val V, .val M, .val (.list (S.map encS)), .val (.int (a + (dn.map (ndS n p v)).sum)), .val (.int (b + (dn.map (rmS n p v)).sum)), .val (.int v)]) _ hd2 ?_ ⟨rfl, ?_⟩
          · rw [hnd, hrm]; rfl
          · simp [f0, f1, f2, f3, f4, f5, f6, f7])
      (fun ρ ⟨dn, J, hd, hJ, e⟩ => ⟨J, hJ, by rw [e]; simp at hd; rw [hd]⟩)
  -- over the versions
  obtain ⟨q1, e1, J1, hJ1, rfl⟩ := ok_loop (g := gNm 9) (m := l2__law_right) (enc := .int) (xs := versL n) (ρ := [.val A, .val N, .val P, .val kd0, .val V, .val M, .val (.list (S.map encS)), .val (.int 0), .val (.int 0)] ++ List.replicate 9 .un)
    (Post := fun q => ∃ J, Junk 9 J ∧ q = (.nx, [.val A, .val N, .val P, .val kd0, .val V, .val M, .val (.list (S.map encS)), .val (.int ((versL n).map (ndV sh n p)).sum), .val (.int ((versL n).map (rmV sh n p)).sum)] ++ J))
    (fun rest ρ => ∃ (dn : List Int) (J : List Sl), dn ++ rest = versL n ∧ Junk 9 J ∧ ρ = [.val A, .val N, .val P, .val kd0, .val V, .val M, .val (.list (S.map encS)), .val (.int (dn.map (ndV sh n p)).sum), .val (.int (dn.map (rmV sh n p)).sum)] ++ J)
    ⟨[], List.replicate 9 .un, rfl, ⟨rfl, by simp⟩, rfl⟩ (fun v rest ρ _ ⟨dn, J, hd, ⟨hJl, hJf⟩, e⟩ => by
      subst e
      obtain ⟨j, J, rfl⟩ : ∃ j J', J = j :: J' := by cases J with | nil => cases hJl | cons a b => exact ⟨_, _, rfl⟩
      have fj : fr j = true := hJf j (by simp)
      have hJ8 : Junk 8 J := ⟨by simpa using hJl, fun x hx => hJf x (by simp [hx])⟩
      obtain ⟨a, ha⟩ : ∃ a, a = (dn.map (ndV sh n p)).sum + (if (decide (v ∈ p.vers) && p.full) = true then (boundsAt sh n v).1 else 0) := ⟨_, rfl⟩
      obtain ⟨b, hb⟩ : ∃ b, b = (dn.map (rmV sh n p)).sum + (if (decide (v ∈ p.vers) && !p.full) = true then (boundsAt sh n v).2 else 0) := ⟨_, rfl⟩
      obtain ⟨q, eq, J', hJ', rfl⟩ := inner v a b J hJ8
      have hnd : ((dn ++ [v]).map (ndV sh n p)).sum = a + (S.map (ndS n p v)).sum := by rw [List.map_append, List.sum_append, ha]; simp [hndV]; omega
      have hrm : ((dn ++ [v]).map (rmV sh n p)).sum = b + (S.map (rmS n p v)).sum := by rw [List.map_append, List.sum_append, hb]; simp [hrmV]; omega
      refine ⟨(.nx, [.val A, .val N, .val P, .val kd0, .val V, .val M, .val (.list (S.map encS)), .val (.int ((dn ++ [v]).map (ndV sh n p)).sum), .val (.int ((dn ++ [v]).map (rmV sh n p)).sum)] ++ (.val (.int v) :: J')), ?_, dn ++ [v], .val (.int v) :: J', by simpa using hd, ⟨by simp [hJ'.1], fun x hx => ?_⟩, rfl⟩
      · rw [hnd, hrm]
        have gVv := gV v
        have ebv := eb v
        cases q3 : decide (v ∈ p.vers) <;> cases q5 : p.full <;> rw [q3] at gVv ha hb <;> rw [q5] at kf ke ha hb <;> simp at ha hb
        all_goals
          simp at eq
          simp [fj, l2__law_right, gVv, kf, ke, ebv, encB, iosOf, mkIn, putB, ← ha, ← hb]
          exact eq
      · rcases List.mem_cons.mp hx with rfl | hx
        · rfl
        · exact hJ'.2 x hx)
    (fun ρ ⟨dn, J, hd, hJ, e⟩ => ⟨J, hJ, by rw [e]; simp at hd; rw [hd]⟩)
  -- over the stretches again
  obtain ⟨q2, e2, J2, hJ2, rfl⟩ := ok_loop (g := gTp [gNm 10, gNm 11, gNm 12, gNm 13, gNm 14]) (m := l3__law_right) (enc := encS) (xs := S) (ρ := [.val A, .val N, .val P, .val kd0, .val V, .val M, .val (.list (S.map encS)), .val (.int ((versL n).map (ndV sh n p)).sum), .val (.int ((versL n).map (rmV sh n p)).sum)] ++ J1)
    (Post := fun q => ∃ J, Junk 9 J ∧ q = (.nx, [.val A, .val N, .val P, .val kd0, .val V, .val M, .val (.list (S.map encS)), .val (.int (((versL n).map (ndV sh n p)).sum + (S.map (ndT p)).sum)), .val (.int (((versL n).map (rmV sh n p)).sum + (S.map (rmT p)).sum))] ++ J))
    (fun rest ρ => ∃ (dn : List Stretch) (J : List Sl), dn ++ rest = S ∧ Junk 9 J ∧ ρ = [.val A, .val N, .val P, .val kd0, .val V, .val M, .val (.list (S.map encS)), .val (.int (((versL n).map (ndV sh n p)).sum + (dn.map (ndT p)).sum)), .val (.int (((versL n).map (rmV sh n p)).sum + (dn.map (rmT p)).sum))] ++ J)
    ⟨[], J1, rfl, hJ1, by simp⟩ (fun s rest ρ _ ⟨dn, J, hd, ⟨hJl, hJf⟩, e⟩ => by
      subst e
      obtain ⟨j8, j0, j1, j2, j3, j4, j5, j6, j7, rfl⟩ : ∃ j8 j0 j1 j2 j3 j4 j5 j6 j7, J = [j8, j0, j1, j2, j3, j4, j5, j6, j7] := by
        match J, hJl with
        | [j8, j0, j1, j2, j3, j4, j5, j6, j7], _ => exact ⟨_, _, _, _, _, _, _, _, _, rfl⟩
      simp only [List.mem_cons, List.not_mem_nil, or_false, forall_eq_or_imp, forall_eq] at hJf
      obtain ⟨f8, f0, f1, f2, f3, f4, f5, f6, f7⟩ := hJf
      have hd2 : (dn ++ [s]) ++ rest = S := by simpa using hd
      have hnd : ((dn ++ [s]).map (ndT p)).sum = (dn.map (ndT p)).sum + ndT p s := by simp
      have hrm : ((dn ++ [s]).map (rmT p)).sum = (dn.map (rmT p)).sum + rmT p s := by simp
      have gMs := gM s
      cases q4 : decide (triS s ∈ p.named) <;> cases q5 : p.full <;> rw [q4] at gMs <;> rw [q5] at kf ke
      all_goals
        have n1 := ndT_def p s
        have n2 := rmT_def p s
        rw [q4, q5] at n1 n2
        simp at n1 n2
        refine ⟨_, by simp [f8, f0, f1, f2, f3, f4, f5, f6, f7, l3__law_right, encS, gMs, kf, ke, s3]; rfl, ?_⟩
        refine junk_of (F := fun dn => [.val A, .val N, .val P, .val kd0, .val V, .val M, .val (.list (S.map encS)), .val (.int (((versL n).map (ndV sh n p)).sum + (dn.map (ndT p)).sum)), .val (.int (((versL n).map (rmV sh n p)).sum + (dn.map (rmT p)).sum))]) _ hd2 ?_ ⟨rfl, ?_⟩
        · simp [n1, n2, Int.add_assoc]
        · simp [f0, f1, f2, f3, f4, f5, f6, f7, f8])
    (fun ρ ⟨dn, J, hd, hJ, e⟩ => ⟨J, hJ, by rw [e]; simp at hd; rw [hd]⟩)
  have gp : gTp [gNm 3, gNm 4, gNm 5] P ([.val A, .val N, .val P] ++ List.replicate 15 .un) = some ([.val A, .val N, .val P, .val kd0, .val V, .val M] ++ List.replicate 12 .un) := by
    rw [hkd]
    conv => lhs; arg 2; rw [hP]
    simp [List.replicate]
  have hrg : rngD 1 (headOf n).toNat = (versL n).map .int := by simp [rngD, versL]
  have l1 : (headOf n) ≤ 16777216 := by omega
  have r1 : -(4611686018427387904 : Int) ≤ headOf n + 1 ∧ headOf n + 1 < 4611686018427387904 := by omega
  have r2 : headOf n + 1 - 1 = headOf n := by omega
  obtain ⟨D, hD⟩ : ∃ D, D = (versL n).map PyData.int := ⟨_, rfl⟩
  have hrg2 : rngD 1 (headOf n).toNat = D := by rw [hD]; exact hrg
  obtain ⟨D2, hD2⟩ : ∃ D, D = S.map encS := ⟨_, rfl⟩
  rw [← hD] at e1
  rw [← hD2] at e1 e2 es
  simp [List.replicate] at gp e1
  simp at e2
  rw [hlr]
  simp [d__law_right, b__law_right, List.replicate, gp, es, eh, iosOf, mkIn, putB, l1, r1, r2, hrg2, e1, e2, backIn]
end Vw
/-! Va7: the plain law: lawRight is isRight. -/
namespace Vw
open PySem PySem.Spec L2 Vx

theorem sum_map_add {α : Type} (f g : α → Int) (xs : List α) : (xs.map fun x => f x + g x).sum = (xs.map f).sum + (xs.map g).sum := by
  induction xs with
  | nil => rfl
  | cons x xs ih => simp only [List.map_cons, List.sum_cons, ih]; omega
theorem sum_map_if {α : Type} (c : α → Bool) (f : α → Int) (xs : List α) : (xs.map fun x => if c x = true then f x else 0).sum = ((xs.filter c).map f).sum := by
  induction xs with
  | nil => rfl
  | cons x xs ih =>
    rw [List.map_cons, List.sum_cons, ih, List.filter_cons]
    cases c x <;> simp
theorem sum_map_0 {α : Type} (xs : List α) : (xs.map fun _ => (0 : Int)).sum = 0 := by
  induction xs with
  | nil => rfl
  | cons x xs ih => rw [List.map_cons, List.sum_cons, ih]; rfl
/-- counting cells, version by version -/
theorem countD_sum (n : List Piece) (c : Int × Ky → Bool) (vs : List Int) (ps : List Stretch) : countD n c vs ps = (vs.map fun v => (ps.map fun s => bI (inS s v && c (v, s.key))).sum).sum := by
  unfold countD cellsOf
  induction ps with
  | nil => simp [sum_map_0]
  | cons s ps ih =>
    rw [List.flatMap_cons, List.filter_append, List.length_append]
    have : ((((((vs.filter (inS s)).map fun v => (v, s.key)).filter c).length : Nat)) : Int) = (vs.map fun v => bI (inS s v && c (v, s.key))).sum := by
      clear ih
      induction vs with
      | nil => rfl
      | cons v vs ih =>
        rw [List.map_cons, List.sum_cons, ← ih]
        cases q : inS s v
        · rw [List.filter_cons_of_neg (by simp [q])]; simp [bI]
        · rw [List.filter_cons_of_pos q, List.map_cons]
          cases q2 : c (v, s.key)
          · rw [List.filter_cons_of_neg (by simp [q2])]; simp [bI]
          · rw [List.filter_cons_of_pos q2, List.length_cons]; simp [bI]; omega
    rw [Int.natCast_add, this, ih, ← sum_map_add]
    congr 1
theorem sum_filter_swap {α : Type} (c d : α → Bool) (f : α → Int) (xs : List α) : ((xs.filter c).map fun x => if d x = true then f x else 0).sum = (xs.map fun x => if (c x && d x) = true then f x else 0).sum := by
  rw [sum_map_if, sum_map_if, List.filter_filter]
  congr 2
  exact List.filter_congr fun x _ => Bool.and_comm _ _
theorem map_sum_congr {α : Type} {f g : α → Int} {xs : List α} (h : ∀ x ∈ xs, f x = g x) : (xs.map f).sum = (xs.map g).sum := by
  rw [List.map_congr_left h]
theorem lawRight_is (sh : List Ky) (n : List Piece) (p : Paper) (hv : p.vers = (versL n).filter fun v => decide (v ∈ p.vers)) : lawRight sh n p = isRight sh n p := by
  have sv : ∀ f : Int → Int, (p.vers.map f).sum = ((versL n).map fun v => if decide (v ∈ p.vers) = true then f v else 0).sum := fun f => by
    rw [sum_map_if, ← hv]
  have so : ∀ f : Int → Int, (((versL n).filter fun v => !decide (v ∈ p.vers)).map f).sum = ((versL n).map fun v => if (!decide (v ∈ p.vers)) = true then f v else 0).sum := fun f => by
    rw [sum_map_if]
  have ins : ∀ f : Stretch → Int, (((stretchesL sh n).filter fun s => decide (triS s ∈ p.named)).map f).sum = ((stretchesL sh n).map fun s => if decide (triS s ∈ p.named) = true then f s else 0).sum := fun f => by
    rw [sum_map_if]
  have outs : ∀ f : Stretch → Int, (((stretchesL sh n).filter fun s => !decide (triS s ∈ p.named)).map f).sum = ((stretchesL sh n).map fun s => if (!decide (triS s ∈ p.named)) = true then f s else 0).sum := fun f => by
    rw [sum_map_if]
  unfold lawRight isRight
  dsimp only
  cases q : p.full with
  | true =>
    rw [if_pos rfl]
    have e1 : ((versL n).map (ndV sh n p)).sum + ((stretchesL sh n).map (ndT p)).sum = (p.vers.map fun v => (boundsAt sh n v).1).sum + countD n (dueC n) ((versL n).filter fun v => !decide (v ∈ p.vers)) ((stretchesL sh n).filter fun s => decide (triS s ∈ p.named)) := by
      rw [countD_sum, sv, so, show ((stretchesL sh n).map (ndT p)).sum = 0 from (map_sum_congr fun s _ => by simp [ndT, q]).trans (sum_map_0 _), Int.add_zero, ← sum_map_add]
      refine map_sum_congr fun v _ => ?_
      unfold ndV
      rw [ins, q]
      cases hc : decide (v ∈ p.vers)
      · simp only [Bool.false_and, Bool.not_false, if_true, Bool.false_eq_true, if_false, Int.zero_add]
        refine map_sum_congr fun s _ => ?_
        unfold ndS
        rw [q, hc]
        cases decide (triS s ∈ p.named) <;> cases inS s v <;> cases dueC n (v, s.key) <;> rfl
      · simp only [Bool.true_and, Bool.not_true, if_true, Bool.false_eq_true, if_false, Int.add_zero]
        have : ((stretchesL sh n).map (ndS n p v)).sum = 0 := (map_sum_congr fun s _ => by
          unfold ndS
          rw [q, hc]
          cases decide (triS s ∈ p.named) <;> cases inS s v <;> cases dueC n (v, s.key) <;> rfl).trans (sum_map_0 _)
        rw [this]; omega
    have e2 : ((versL n).map (rmV sh n p)).sum + ((stretchesL sh n).map (rmT p)).sum = (((stretchesL sh n).filter fun s => decide (triS s ∈ p.named)).map (·.most)).sum + countD n (openC n) p.vers ((stretchesL sh n).filter fun s => !decide (triS s ∈ p.named)) := by
      rw [countD_sum, sv, ins, Int.add_comm]
      congr 1
      · refine map_sum_congr fun s _ => ?_
        unfold rmT
        rw [q, Bool.and_true]
      · refine map_sum_congr fun v _ => ?_
        unfold rmV
        rw [outs, q]
        cases hc : decide (v ∈ p.vers)
        · simp only [Bool.false_and, Bool.not_true, Bool.and_false, Bool.false_eq_true, if_false, Int.zero_add]
          exact (map_sum_congr fun s _ => by
            unfold rmS
            rw [q, hc]
            cases decide (triS s ∈ p.named) <;> cases inS s v <;> cases openC n (v, s.key) <;> rfl).trans (sum_map_0 _)
        · simp only [Bool.not_true, Bool.and_false, Bool.false_eq_true, if_false, if_true, Int.zero_add]
          refine map_sum_congr fun s _ => ?_
          unfold rmS
          rw [q, hc]
          cases decide (triS s ∈ p.named) <;> cases inS s v <;> cases openC n (v, s.key) <;> rfl
    rw [e1, e2]
  | false =>
    rw [if_neg (by simp)]
    have e1 : ((versL n).map (ndV sh n p)).sum + ((stretchesL sh n).map (ndT p)).sum = (((stretchesL sh n).filter fun s => decide (triS s ∈ p.named)).map (·.least)).sum + countD n (dueC n) p.vers ((stretchesL sh n).filter fun s => !decide (triS s ∈ p.named)) := by
      rw [countD_sum, sv, ins, Int.add_comm]
      congr 1
      · refine map_sum_congr fun s _ => ?_
        unfold ndT
        rw [q, Bool.not_false, Bool.and_true]
      · refine map_sum_congr fun v _ => ?_
        unfold ndV
        rw [outs, q]
        cases hc : decide (v ∈ p.vers)
        · simp only [Bool.false_and, Bool.and_false, Bool.false_eq_true, if_false, Int.zero_add]
          exact (map_sum_congr fun s _ => by
            unfold ndS
            rw [q, hc]
            cases decide (triS s ∈ p.named) <;> cases inS s v <;> cases dueC n (v, s.key) <;> rfl).trans (sum_map_0 _)
        · simp only [Bool.and_false, Bool.false_eq_true, if_false, if_true, Int.zero_add]
          refine map_sum_congr fun s _ => ?_
          unfold ndS
          rw [q, hc]
          cases decide (triS s ∈ p.named) <;> cases inS s v <;> cases dueC n (v, s.key) <;> rfl
    have e2 : ((versL n).map (rmV sh n p)).sum + ((stretchesL sh n).map (rmT p)).sum = (p.vers.map fun v => (boundsAt sh n v).2).sum + countD n (openC n) ((versL n).filter fun v => !decide (v ∈ p.vers)) ((stretchesL sh n).filter fun s => decide (triS s ∈ p.named)) := by
      rw [countD_sum, sv, so, show ((stretchesL sh n).map (rmT p)).sum = 0 from (map_sum_congr fun s _ => by simp [rmT, q]).trans (sum_map_0 _), Int.add_zero, ← sum_map_add]
      refine map_sum_congr fun v _ => ?_
      unfold rmV
      rw [ins, q]
      cases hc : decide (v ∈ p.vers)
      · simp only [Bool.false_and, Bool.not_false, if_true, Bool.false_eq_true, if_false, Int.zero_add]
        refine map_sum_congr fun s _ => ?_
        unfold rmS
        rw [q, hc]
        cases decide (triS s ∈ p.named) <;> cases inS s v <;> cases openC n (v, s.key) <;> rfl
      · simp only [Bool.true_and, Bool.not_false, Bool.not_true, if_true, Bool.false_eq_true, if_false, Int.add_zero]
        have : ((stretchesL sh n).map (rmS n p v)).sum = 0 := (map_sum_congr fun s _ => by
          unfold rmS
          rw [q, hc]
          cases decide (triS s ∈ p.named) <;> cases inS s v <;> cases openC n (v, s.key) <;> rfl).trans (sum_map_0 _)
        rw [this]; omega
    rw [e1, e2]
end Vw
/-! Va8: _law_clash. -/
namespace Vw
open PySem PySem.Spec L2 Vx

@[simp] theorem compD_nil {g : GM} {t : TM} {m : VM} {vs : List Nat} {ρ : Rho} : compD g t m vs [] ρ = some ([], ρ) := rfl
@[simp] theorem gAll2_nil : gAll2 [.list []] = some (.bool true) := rfl
@[simp] theorem li_head_mw : gIn (.str "head") (.tuple [.str "many", .str "wrote"]) = some (.bool false) := by kernel_rfl
@[simp] theorem li_times_mw : gIn (.str "times") (.tuple [.str "many", .str "wrote"]) = some (.bool false) := by kernel_rfl
@[simp] theorem li_value_mw : gIn (.str "value") (.tuple [.str "many", .str "wrote"]) = some (.bool false) := by kernel_rfl
@[simp] theorem li_wrote_mw : gIn (.str "wrote") (.tuple [.str "many", .str "wrote"]) = some (.bool true) := by kernel_rfl
@[simp] theorem li_among_mw : gIn (.str "among") (.tuple [.str "many", .str "wrote"]) = some (.bool false) := by kernel_rfl
@[simp] theorem li_many_mw : gIn (.str "many") (.tuple [.str "many", .str "wrote"]) = some (.bool true) := by kernel_rfl
@[simp] theorem li_did_mw : gIn (.str "did") (.tuple [.str "many", .str "wrote"]) = some (.bool false) := by kernel_rfl
def OneNumber (n : List Piece) : Prop := ∀ v, ∀ a ∈ numbersAt n v, ∀ b ∈ numbersAt n v, a = b
def NamesOk (sh : List Ky) (n : List Piece) : Prop := ∀ p ∈ n, namesOk sh p = true
def timesL (n : List Piece) (k : Ky) : List (Int × Int) := (0, 0) :: n.filterMap (timesP k)
def TimesOk (n : List Piece) (k : Ky) : Prop := ∀ a ∈ timesL n k, ∀ b ∈ timesL n k, a.1 ≤ b.1 → a.2 ≤ b.2
def CellsOk (n : List Piece) (k : Ky) : Prop := ∀ v ∈ versL n, ¬ (isShut n v k = true ∧ isDue n v k = true)
/-- no two things are told that cannot be together -/
structure NoClash (sh : List Ky) (n : List Piece) : Prop where
  names : NamesOk sh n
  number : OneNumber n
  value : OneValue n
  times : ∀ k ∈ sh, TimesOk n k
  cells : ∀ k ∈ sh, CellsOk n k
def valP (k : Ky) (i : Int) : Piece → Option Int
  | .value k' i' v => if k' = k ∧ i' = i then some v else none
  | _ => none
def valuesAt (n : List Piece) (k : Ky) (i : Int) : List Int := n.filterMap (valP k i)
theorem mem_valuesAt {n : List Piece} {k : Ky} {i v : Int} : v ∈ valuesAt n k i ↔ Piece.value k i v ∈ n := by
  unfold valuesAt
  rw [List.mem_filterMap]
  constructor
  · rintro ⟨p, hp, e⟩
    cases p with
    | value k' i' v' =>
      simp only [valP] at e
      split at e
      · rename_i q; obtain ⟨rfl, rfl⟩ := q; cases e; exact hp
      · cases e
    | _ => cases e
  · intro h; exact ⟨_, h, by simp [valP]⟩
/-- what the dict of the first loop tells -/
structure Told (n : List Piece) (T : Kvs) : Prop where
  num : ∀ v, kLook T (.num v) = ((numbersAt n v).head?).map .int
  val : ∀ k i, kLook T (keyKI k i) = ((valuesAt n k i).head?).map .int
  len : T.length ≤ 2 * n.length
theorem numbersAt_snoc (n : List Piece) (p : Piece) (v : Int) : numbersAt (n ++ [p]) v = numbersAt n v ++ (numP v p).toList := by
  unfold numbersAt
  rw [List.filterMap_append]
  cases q : numP v p <;> simp [q]
theorem valuesAt_snoc (n : List Piece) (p : Piece) (k : Ky) (i : Int) : valuesAt (n ++ [p]) k i = valuesAt n k i ++ (valP k i p).toList := by
  unfold valuesAt
  rw [List.filterMap_append]
  cases q : valP k i p <;> simp [q]
theorem head_app {α : Type} (xs ys : List α) : (xs ++ ys).head? = (xs.head?).or ys.head? := by cases xs <;> simp
theorem told_none {n : List Piece} {T : Kvs} {p : Piece} (h : Told n T) (h1 : ∀ v, numP v p = none) (h2 : ∀ k i, valP k i p = none) : Told (n ++ [p]) T :=
  ⟨fun v => by rw [numbersAt_snoc, h1, h.num]; simp, fun k i => by rw [valuesAt_snoc, h2, h.val]; simp, by simp; have := h.len; omega⟩
theorem told_num {n : List Piece} {T : Kvs} {p : Piece} {v m : Int} (h : Told n T) (h1 : ∀ v', numP v' p = if v = v' then some m else none) (h2 : ∀ k i, valP k i p = none) :
    (kLook T (.num v) = none → Told (n ++ [p]) (kPut T (.num v) (.int m))) ∧ ∀ d, kLook T (.num v) = some d → Told (n ++ [p]) T := by
  refine ⟨fun q => ⟨fun v' => ?_, fun k i => ?_, ?_⟩, fun d q => ⟨fun v' => ?_, fun k i => ?_, ?_⟩⟩
  · rw [look_put, numbersAt_snoc, h1, head_app]
    by_cases e : v = v'
    · subst e
      have hq := h.num v
      rw [q] at hq
      have : (numbersAt n v).head? = none := by cases z : (numbersAt n v).head? with | none => rfl | some _ => rw [z] at hq; cases hq
      rw [if_pos rfl, if_pos rfl, this]
      rfl
    · rw [if_neg (by simpa using e), if_neg e, h.num]
      simp
  · rw [look_put, valuesAt_snoc, h2, if_neg (by simp [keyKI]), h.val]
    simp
  · have := kPut_length T (.num v) (.int m)
    have := h.len
    simp; omega
  · rw [numbersAt_snoc, h1, head_app, h.num]
    by_cases e : v = v'
    · subst e
      have hq := h.num v
      rw [q] at hq
      cases z : (numbersAt n v).head? with
      | none => rw [z] at hq; cases hq
      | some _ => simp
    · rw [if_neg e]; simp
  · rw [valuesAt_snoc, h2, h.val]; simp
  · have := h.len; simp; omega
theorem told_val {n : List Piece} {T : Kvs} {k : Ky} {i m : Int} (h : Told n T) :
    (kLook T (keyKI k i) = none → Told (n ++ [.value k i m]) (kPut T (keyKI k i) (.int m))) ∧ ∀ d, kLook T (keyKI k i) = some d → Told (n ++ [.value k i m]) T := by
  refine ⟨fun q => ⟨fun v' => ?_, fun k' i' => ?_, ?_⟩, fun d q => ⟨fun v' => ?_, fun k' i' => ?_, ?_⟩⟩
  · rw [look_put, numbersAt_snoc, if_neg (by simp [keyKI]), h.num]
    simp [numP]
  · rw [look_put, valuesAt_snoc, head_app]
    by_cases e : k = k' ∧ i = i'
    · obtain ⟨rfl, rfl⟩ := e
      have hq := h.val k i
      rw [q] at hq
      have : (valuesAt n k i).head? = none := by cases z : (valuesAt n k i).head? with | none => rfl | some _ => rw [z] at hq; cases hq
      rw [if_pos rfl, this]
      simp [valP]
    · rw [if_neg (fun z => e (keyKI_inj.mp z)), h.val]
      simp [valP, e]
  · have := kPut_length T (keyKI k i) (.int m)
    have := h.len
    simp; omega
  · rw [numbersAt_snoc, h.num]; simp [numP]
  · rw [valuesAt_snoc, head_app, h.val]
    by_cases e : k = k' ∧ i = i'
    · obtain ⟨rfl, rfl⟩ := e
      have hq := h.val k i
      rw [q] at hq
      cases z : (valuesAt n k i).head? with
      | none => rw [z] at hq; cases hq
      | some _ => simp
    · simp [valP, e]
  · have := h.len; simp; omega
theorem oneNumber_snoc {n : List Piece} {p : Piece} {v m : Int} (h : OneNumber n) (h1 : ∀ v', numP v' p = if v = v' then some m else none) (hm : ∀ x, (numbersAt n v).head? = some x → x = m) : OneNumber (n ++ [p]) := by
  have al : ∀ x ∈ numbersAt n v, x = m := fun x hx => by
    cases z : numbersAt n v with
    | nil => rw [z] at hx; cases hx
    | cons y ys =>
      have := hm y (by rw [z]; rfl)
      rw [← this]
      exact h v x hx y (by rw [z]; simp)
  intro v' a ha b hb
  rw [numbersAt_snoc, h1] at ha hb
  by_cases e : v = v'
  · subst e
    simp at ha hb
    have z : ∀ x, (x ∈ numbersAt n v ∨ x = m) → x = m := fun x hx => hx.elim (al x) id
    rw [z a ha, z b hb]
  · rw [if_neg e] at ha hb
    simp at ha hb
    exact h v' a ha b hb
theorem oneNumber_none {n : List Piece} {p : Piece} (h : OneNumber n) (h1 : ∀ v, numP v p = none) : OneNumber (n ++ [p]) := by
  intro v a ha b hb
  rw [numbersAt_snoc, h1] at ha hb
  simp at ha hb
  exact h v a ha b hb
theorem oneValue_snoc {n : List Piece} {k : Ky} {i m : Int} (h : OneValue n) (hm : ∀ x, (valuesAt n k i).head? = some x → x = m) : OneValue (n ++ [.value k i m]) := by
  have al : ∀ x, Piece.value k i x ∈ n → x = m := fun x hx => by
    have hx' := mem_valuesAt.mpr hx
    cases z : valuesAt n k i with
    | nil => rw [z] at hx'; cases hx'
    | cons y ys =>
      have := hm y (by rw [z]; rfl)
      rw [← this]
      exact h k i x y hx (mem_valuesAt.mp (by rw [z]; simp))
  intro k' i' v w hv hw
  simp only [List.mem_append, List.mem_singleton, Piece.value.injEq] at hv hw
  rcases hv with hv | ⟨rfl, rfl, rfl⟩ <;> rcases hw with hw | ⟨e1, e2, e3⟩
  · exact h k' i' v w hv hw
  · subst e1 e2 e3; exact al v hv
  · exact (al w hw).symm
  · exact e3.symm
theorem oneValue_none {n : List Piece} {p : Piece} (h : OneValue n) (h1 : ∀ k i, valP k i p = none) : OneValue (n ++ [p]) := by
  have ne : ∀ k i v, Piece.value k i v ∈ n ++ [p] → Piece.value k i v ∈ n := fun k i v hv => by
    rcases List.mem_append.mp hv with hv | hv
    · exact hv
    · rw [List.mem_singleton] at hv
      subst hv
      have := h1 k i
      simp [valP] at this
  exact fun k i v w hv hw => h k i v w (ne k i v hv) (ne k i w hw)
theorem namesOk_snoc {sh : List Ky} {n : List Piece} {p : Piece} (h : NamesOk sh n) (hp : namesOk sh p = true) : NamesOk sh (n ++ [p]) := fun q hq => by
  rcases List.mem_append.mp hq with hq | hq
  · exact h q hq
  · rw [List.mem_singleton.mp hq]; exact hp
def First (sh : List Ky) (n : List Piece) : Prop := NamesOk sh n ∧ OneNumber n ∧ OneValue n
theorem clash_loop1 (sh : List Ky) (n : List Piece) (hn : n.length ≤ 100) : Ok (loopD (gNm 3) l1__law_clash (n.map Piece.enc) [.val (kds sh), .val (encN n), .own (.dct []), .un, .un, .un, .un, .un, .un, .un, .un, .un, .un]) fun q =>
    (q.1 = .rt (.val (.bool true)) ∧ ¬ First sh n) ∨ ∃ T a b c d, First sh n ∧ fr a = true ∧ fr b = true ∧ fr c = true ∧ fr d = true ∧ q = (.nx, [.val (kds sh), .val (encN n), .own (.dct T), a, b, c, d, .un, .un, .un, .un, .un, .un]) := by
  have s2 : (2 : Nat) ≤ sizeLine := small_line 2 (by decide)
  have s1 : (1 : Nat) ≤ sizeLine := small_line 1 (by decide)
  have s0 : (0 : Nat) ≤ sizeLine := Nat.zero_le _
  have cm : ∀ (ks : List Ky) (T : Kvs) (a b c d : Sl), fr c = true → compD (gNm 5) tYesM c1__law_clash [5] (ks.map kd) [.val (kds sh), .val (encN n), .own (.dct T), a, b, .un, d, .un, .un, .un, .un, .un, .un] = some (ks.map fun k => .bool (decide (k ∈ sh)), [.val (kds sh), .val (encN n), .own (.dct T), a, b, .un, d, .un, .un, .un, .un, .un, .un]) := fun ks T a b c d fc =>
    compD_mp _ fun k _ => by simp [stepD, c1__law_clash]
  have mono : ∀ dn rest : List Piece, dn ++ rest = n → First sh n → First sh dn := fun dn rest hd ⟨h1, h2, h3⟩ => by
    subst hd
    refine ⟨fun p hp => h1 p (List.mem_append_left _ hp), fun v a ha b hb => h2 v a ?_ b ?_, fun k i v w hv hw => h3 k i v w (List.mem_append_left _ hv) (List.mem_append_left _ hw)⟩
    · unfold numbersAt at ha ⊢; rw [List.filterMap_append]; exact List.mem_append_left _ ha
    · unfold numbersAt at hb ⊢; rw [List.filterMap_append]; exact List.mem_append_left _ hb
  refine ok_loop (fun rest ρ => ∃ (dn : List Piece) (T : Kvs) (a b c d : Sl), dn ++ rest = n ∧ First sh dn ∧ Told dn T ∧ fr a = true ∧ fr b = true ∧ fr c = true ∧ fr d = true ∧ ρ = [.val (kds sh), .val (encN n), .own (.dct T), a, b, c, d, .un, .un, .un, .un, .un, .un])
    ⟨[], [], .un, .un, .un, .un, rfl, ⟨fun p hp => absurd hp (by simp), fun v a ha => absurd ha (by simp [numbersAt]), fun k i v w hv => absurd hv (by simp)⟩, ⟨fun v => rfl, fun k i => rfl, by simp⟩, rfl, rfl, rfl, rfl, rfl⟩
    (fun p rest ρ hp ⟨dn, T, a, b, c, d, hd, ⟨o1, o2, o3⟩, ht, fa, fb, fc, fd, e⟩ => by
      subst e
      have hd2 : (dn ++ [p]) ++ rest = n := by simpa using hd
      have hl : T.length + 1 ≤ sizeLine := by
        have h1 := ht.len
        have h2 := congrArg List.length hd
        simp at h2
        rw [sizeLine_eq]
        omega
      have hl2 : T.length < sizeLine := by omega
      have ga := fun ks : List Ky => gAll_map (fun k => decide (k ∈ sh)) ks
      have out : ¬ First sh (dn ++ [p]) → ¬ First sh n := fun h z => h (mono _ _ hd2 z)
      have bad1 : namesOk sh p = false → ¬ First sh (dn ++ [p]) := fun q z => by have := z.1 p (by simp); rw [q] at this; cases this
      cases p with
      | head v =>
        refine st_nx (by simp [fa, fb, fc, fd, l1__law_clash, Piece.enc, s0, s2]; rfl) ?_
        exact ⟨dn ++ [.head v], T, _, _, _, _, hd2, ⟨namesOk_snoc o1 rfl, oneNumber_none o2 fun _ => rfl, oneValue_none o3 fun _ _ => rfl⟩, told_none ht (fun _ => rfl) fun _ _ => rfl, rfl, rfl, rfl, fd, rfl⟩
      | did v k =>
        have g1 := ga [k]
        have c1 := cm [k] T (.val (Piece.did v k).enc) (.val (.list [kd k])) .un d rfl
        by_cases q : k ∈ sh
        · have hn : namesOk sh (.did v k) = true := by simp [namesOk, namesOf, q]
          simp [q, Piece.enc] at g1 c1
          refine st_nx (by simp [fa, fb, fc, fd, l1__law_clash, Piece.enc, s0, s1, s2, g1, c1]; rfl) ?_
          exact ⟨dn ++ [.did v k], T, _, _, _, _, hd2, ⟨namesOk_snoc o1 hn, oneNumber_none o2 fun _ => rfl, oneValue_none o3 fun _ _ => rfl⟩, told_none ht (fun _ => rfl) fun _ _ => rfl, rfl, rfl, rfl, fd, rfl⟩
        · have hn : namesOk sh (.did v k) = false := by simp [namesOk, namesOf, q]
          simp [q, Piece.enc] at g1 c1
          exact st_rt (by simp [fa, fb, fc, fd, l1__law_clash, Piece.enc, s0, s1, s2, g1, c1]; rfl) (.inl ⟨rfl, out (bad1 hn)⟩)
      | times k v m =>
        have g1 := ga [k]
        have c1 := cm [k] T (.val (Piece.times k v m).enc) (.val (.list [kd k])) .un d rfl
        by_cases q : k ∈ sh
        · have hn : namesOk sh (.times k v m) = true := by simp [namesOk, namesOf, q]
          simp [q, Piece.enc] at g1 c1
          refine st_nx (by simp [fa, fb, fc, fd, l1__law_clash, Piece.enc, s0, s1, s2, g1, c1]; rfl) ?_
          exact ⟨dn ++ [.times k v m], T, _, _, _, _, hd2, ⟨namesOk_snoc o1 hn, oneNumber_none o2 fun _ => rfl, oneValue_none o3 fun _ _ => rfl⟩, told_none ht (fun _ => rfl) fun _ _ => rfl, rfl, rfl, rfl, fd, rfl⟩
        · have hn : namesOk sh (.times k v m) = false := by simp [namesOk, namesOf, q]
          simp [q, Piece.enc] at g1 c1
          exact st_rt (by simp [fa, fb, fc, fd, l1__law_clash, Piece.enc, s0, s1, s2, g1, c1]; rfl) (.inl ⟨rfl, out (bad1 hn)⟩)
      | among v ks =>
        have g1 := ga ks
        have c1 := cm ks T (.val (Piece.among v ks).enc) (.val (kds ks)) .un d rfl
        cases q : namesOk sh (.among v ks) with
        | true =>
          have q' : (ks.all fun k => decide (k ∈ sh)) = true := q
          rw [q'] at g1
          simp [Piece.enc] at g1 c1
          refine st_nx (by simp [fa, fb, fc, fd, l1__law_clash, Piece.enc, s0, s1, s2, g1, c1]; rfl) ?_
          exact ⟨dn ++ [.among v ks], T, _, _, _, _, hd2, ⟨namesOk_snoc o1 q, oneNumber_none o2 fun _ => rfl, oneValue_none o3 fun _ _ => rfl⟩, told_none ht (fun _ => rfl) fun _ _ => rfl, rfl, rfl, rfl, fd, rfl⟩
        | false =>
          have q' : (ks.all fun k => decide (k ∈ sh)) = false := q
          rw [q'] at g1
          simp [Piece.enc] at g1 c1
          exact st_rt (by simp [fa, fb, fc, fd, l1__law_clash, Piece.enc, s0, s1, s2, g1, c1]; rfl) (.inl ⟨rfl, out (bad1 q)⟩)
      | value k i m =>
        have kk := keyD_KI k i
        have sl : gSl (.tuple [.str "value", .str k.s, .int i, .int m]) (some 1) (some 3) = some (.tuple [.str k.s, .int i]) := rfl
        obtain ⟨t1, t2⟩ := told_val (k := k) (i := i) (m := m) ht
        have hv := ht.val k i
        cases q : kLook T (keyKI k i) with
        | none =>
          have hz := kPut_length T (keyKI k i) (.int m)
          refine st_nx (by simp [fa, fb, fc, fd, l1__law_clash, Piece.enc, s0, s1, s2, kk, sl, q, hl2, updD]; rfl) ?_
          refine ⟨dn ++ [.value k i m], _, _, _, _, _, hd2, ⟨namesOk_snoc o1 rfl, oneNumber_none o2 fun _ => rfl, oneValue_snoc o3 fun x hx => ?_⟩, t1 q, rfl, rfl, rfl, fd, rfl⟩
          rw [hx, q] at hv; cases hv
        | some x =>
          rw [q] at hv
          obtain ⟨w, hw, e⟩ := Option.map_eq_some_iff.mp hv.symm
          subst e
          by_cases e : w = m
          · refine st_nx (by simp [fa, fb, fc, fd, l1__law_clash, Piece.enc, s0, s1, s2, kk, sl, q, e]; rfl) ?_
            refine ⟨dn ++ [.value k i m], T, _, _, _, _, hd2, ⟨namesOk_snoc o1 rfl, oneNumber_none o2 fun _ => rfl, oneValue_snoc o3 fun x hx => ?_⟩, t2 _ q, rfl, rfl, rfl, fd, rfl⟩
            rw [hx] at hw; cases hw; exact e
          · refine st_rt (by simp [fa, fb, fc, fd, l1__law_clash, Piece.enc, s0, s1, s2, kk, sl, q, e]; rfl) (.inl ⟨rfl, out fun z => e ?_⟩)
            have hm := mem_valuesAt.mp (List.mem_of_mem_head? (show w ∈ (valuesAt dn k i).head? from hw))
            exact z.2.2 k i w m (List.mem_append_left _ hm) (by simp)
      | many v m =>
        have h1 : ∀ v', numP v' (.many v m) = if v = v' then some m else none := fun _ => rfl
        obtain ⟨t1, t2⟩ := told_num (m := m) ht h1 fun _ _ => rfl
        have hv := ht.num v
        cases q : kLook T (.num v) with
        | none =>
          refine st_nx (by simp [fa, fb, fc, fd, l1__law_clash, Piece.enc, s0, s1, s2, q, hl2, updD]; rfl) ?_
          refine ⟨dn ++ [.many v m], _, _, _, _, _, hd2, ⟨namesOk_snoc o1 rfl, oneNumber_snoc o2 h1 fun x hx => ?_, oneValue_none o3 fun _ _ => rfl⟩, t1 q, rfl, rfl, rfl, rfl, rfl⟩
          rw [hx, q] at hv; cases hv
        | some x =>
          rw [q] at hv
          obtain ⟨w, hw, e⟩ := Option.map_eq_some_iff.mp hv.symm
          subst e
          by_cases e : w = m
          · refine st_nx (by simp [fa, fb, fc, fd, l1__law_clash, Piece.enc, s0, s1, s2, q, e]; rfl) ?_
            refine ⟨dn ++ [.many v m], T, _, _, _, _, hd2, ⟨namesOk_snoc o1 rfl, oneNumber_snoc o2 h1 fun x hx => ?_, oneValue_none o3 fun _ _ => rfl⟩, t2 _ q, rfl, rfl, rfl, rfl, rfl⟩
            rw [hx] at hw; cases hw; exact e
          · refine st_rt (by simp [fa, fb, fc, fd, l1__law_clash, Piece.enc, s0, s1, s2, q, e]; rfl) (.inl ⟨rfl, out fun z => e ?_⟩)
            have hm : w ∈ numbersAt dn v := List.mem_of_mem_head? (show w ∈ (numbersAt dn v).head? from hw)
            exact z.2.1 v w (by rw [numbersAt_snoc]; exact List.mem_append_left _ hm) m (by rw [numbersAt_snoc, h1]; simp)
      | wrote v ks =>
        have g1 := ga ks
        have c1 := cm ks T (.val (Piece.wrote v ks).enc) (.val (kds ks)) .un d rfl
        cases q0 : namesOk sh (.wrote v ks) with
        | false =>
          have q' : (ks.all fun k => decide (k ∈ sh)) = false := q0
          rw [q'] at g1
          simp [Piece.enc] at g1 c1
          exact st_rt (by simp [fa, fb, fc, fd, l1__law_clash, Piece.enc, s0, s1, s2, g1, c1]; rfl) (.inl ⟨rfl, out (bad1 q0)⟩)
        | true =>
          have q' : (ks.all fun k => decide (k ∈ sh)) = true := q0
          rw [q'] at g1
          simp [Piece.enc] at g1 c1
          have h1 : ∀ v', numP v' (.wrote v ks) = if v = v' then some (ks.length : Int) else none := fun _ => rfl
          obtain ⟨t1, t2⟩ := told_num (m := (ks.length : Int)) ht h1 fun _ _ => rfl
          have hv := ht.num v
          cases q : kLook T (.num v) with
          | none =>
            refine st_nx (by simp [fa, fb, fc, fd, l1__law_clash, Piece.enc, s0, s1, s2, g1, c1, q, hl2, updD]; rfl) ?_
            refine ⟨dn ++ [.wrote v ks], _, _, _, _, _, hd2, ⟨namesOk_snoc o1 q0, oneNumber_snoc o2 h1 fun x hx => ?_, oneValue_none o3 fun _ _ => rfl⟩, t1 q, rfl, rfl, rfl, rfl, rfl⟩
            rw [hx, q] at hv; cases hv
          | some x =>
            rw [q] at hv
            obtain ⟨w, hw, e⟩ := Option.map_eq_some_iff.mp hv.symm
            subst e
            by_cases e : w = (ks.length : Int)
            · refine st_nx (by simp [fa, fb, fc, fd, l1__law_clash, Piece.enc, s0, s1, s2, g1, c1, q, e]; rfl) ?_
              refine ⟨dn ++ [.wrote v ks], T, _, _, _, _, hd2, ⟨namesOk_snoc o1 q0, oneNumber_snoc o2 h1 fun x hx => ?_, oneValue_none o3 fun _ _ => rfl⟩, t2 _ q, rfl, rfl, rfl, rfl, rfl⟩
              rw [hx] at hw; cases hw; exact e
            · refine st_rt (by simp [fa, fb, fc, fd, l1__law_clash, Piece.enc, s0, s1, s2, g1, c1, q, e]; rfl) (.inl ⟨rfl, out fun z => e ?_⟩)
              have hm : w ∈ numbersAt dn v := List.mem_of_mem_head? (show w ∈ (numbersAt dn v).head? from hw)
              exact z.2.1 v w (by rw [numbersAt_snoc]; exact List.mem_append_left _ hm) (ks.length : Int) (by rw [numbersAt_snoc, h1]; simp))
    (fun ρ ⟨dn, T, a, b, c, d, hd, hf, ht, fa, fb, fc, fd, e⟩ => .inr ⟨T, a, b, c, d, by simp at hd; rw [← hd]; exact hf, fa, fb, fc, fd, by rw [e]⟩)
end Vw
/-! Va9: _law_clash: marks, cells, the whole. -/
namespace Vw
open PySem PySem.Spec L2 Vx

/-- what the dict of marks tells -/
structure Marks (n : List Piece) (k : Ky) (m : IK) : Prop where
  all : ∀ a ∈ timesL n k, lookI m a.1 = some a.2
  only : ∀ x w, lookI m x = some w → (x, w) ∈ timesL n k
  nodup : (m.map (·.1)).Nodup
  len : m.length ≤ n.length + 1
theorem timesL_snoc (n : List Piece) (p : Piece) (k : Ky) : timesL (n ++ [p]) k = timesL n k ++ (timesP k p).toList := by
  unfold timesL
  rw [List.filterMap_append]
  cases q : timesP k p <;> simp [q]
theorem marks0 (k : Ky) : Marks [] k [(0, 0)] := by
  refine ⟨fun a ha => ?_, fun x w h => ?_, by simp, by simp⟩
  · simp [timesL] at ha; subst ha; rfl
  · simp only [lookI] at h
    split at h
    · rename_i e; cases h; simp [timesL]; exact e.symm
    · cases h
theorem clash_marks (n : List Piece) (k : Ky) (hn : n.length ≤ 100) (A N : PyData) (T : Kvs) (a b d e8 e9 e10 e11 e12 : Sl) (fa : fr a = true) : Ok (loopD (gNm 3) l2__law_clash (n.map Piece.enc) [.val A, .val N, .own (.dct T), a, b, .val (kd k), d, .own (.dct (encIK [(0, 0)])), e8, e9, e10, e11, e12]) fun q =>
    (q.1 = .rt (.val (.bool true)) ∧ ¬ TimesOk n k) ∨ ∃ m a, Marks n k m ∧ fr a = true ∧ q = (.nx, [.val A, .val N, .own (.dct T), a, b, .val (kd k), d, .own (.dct (encIK m)), e8, e9, e10, e11, e12]) := by
  refine ok_loop (fun rest ρ => ∃ (dn : List Piece) (m : IK) (a : Sl), dn ++ rest = n ∧ Marks dn k m ∧ fr a = true ∧ ρ = [.val A, .val N, .own (.dct T), a, b, .val (kd k), d, .own (.dct (encIK m)), e8, e9, e10, e11, e12])
    ⟨[], [(0, 0)], a, rfl, marks0 k, fa, rfl⟩
    (fun p rest ρ hp ⟨dn, m, a, hd, hm, fa, e⟩ => by
      subst e
      have hd2 : (dn ++ [p]) ++ rest = n := by simpa using hd
      have hl : m.length < sizeLine := by
        have h1 := hm.len
        have h2 := congrArg List.length hd
        simp at h2
        rw [sizeLine_eq]; omega
      have sub : ∀ x ∈ timesL (dn ++ [p]) k, x ∈ timesL n k := fun x hx => by
        rw [← hd2]
        unfold timesL at hx ⊢
        rw [List.filterMap_append]
        simp only [List.mem_cons, List.mem_append] at hx ⊢
        rcases hx with h | h
        · exact .inl h
        · exact .inr (.inl h)
      cases q : timesP k p with
      | none =>
        have ht : timesL (dn ++ [p]) k = timesL dn k := by rw [timesL_snoc, q]; simp
        refine st_nx (ρ := [.val A, .val N, .own (.dct T), .val p.enc, b, .val (kd k), d, .own (.dct (encIK m)), e8, e9, e10, e11, e12]) ?_ ⟨dn ++ [p], m, _, hd2, ⟨by rw [ht]; exact hm.all, by rw [ht]; exact hm.only, hm.nodup, by have := hm.len; simp; omega⟩, rfl, rfl⟩
        cases p <;> simp [timesP] at q <;> simp [fa, l2__law_clash, Piece.enc, q]
      | some vm =>
        obtain ⟨v, w⟩ := vm
        have hp2 : p = .times k v w := by
          cases p <;> simp [timesP] at q
          obtain ⟨rfl, rfl, rfl⟩ := q
          rfl
        subst hp2
        have ht : timesL (dn ++ [.times k v w]) k = timesL dn k ++ [(v, w)] := by rw [timesL_snoc, q]; rfl
        cases q2 : lookI m v with
        | none =>
          refine st_nx (ρ := [.val A, .val N, .own (.dct T), .val (Piece.times k v w).enc, b, .val (kd k), d, .own (.dct (encIK (putI m v w))), e8, e9, e10, e11, e12]) (by simp [fa, l2__law_clash, Piece.enc, q2, hl, updD]) ?_
          refine ⟨dn ++ [.times k v w], putI m v w, _, hd2, ⟨fun x hx => ?_, fun x y hx => ?_, putI_nodup hm.nodup, by have := hm.len; have := putI_len m v w; simp; omega⟩, rfl, rfl⟩
          · rw [look_putI]
            rw [ht] at hx
            rcases List.mem_append.mp hx with hx | hx
            · have h1 := hm.all x hx
              by_cases e : v = x.1
              · rw [← e, q2] at h1; cases h1
              · rw [if_neg e]; exact h1
            · rw [List.mem_singleton.mp hx]; simp
          · rw [look_putI] at hx
            rw [ht]
            split at hx
            · rename_i e; cases hx; subst e; simp
            · exact List.mem_append_left _ (hm.only x y hx)
        | some y =>
          by_cases e : y = w
          · refine st_nx (ρ := [.val A, .val N, .own (.dct T), .val (Piece.times k v w).enc, b, .val (kd k), d, .own (.dct (encIK m)), e8, e9, e10, e11, e12]) (by simp [fa, l2__law_clash, Piece.enc, q2, hl, e]) ?_
            refine ⟨dn ++ [.times k v w], m, _, hd2, ⟨fun x hx => ?_, fun x y hx => ?_, hm.nodup, by have := hm.len; simp; omega⟩, rfl, rfl⟩
            · rw [ht] at hx
              rcases List.mem_append.mp hx with hx | hx
              · exact hm.all x hx
              · rw [List.mem_singleton.mp hx, q2, e]
            · rw [ht]; exact List.mem_append_left _ (hm.only x y hx)
          · refine st_rt (by simp [fa, l2__law_clash, Piece.enc, q2, hl, e]; rfl) (.inl ⟨rfl, fun ok => ?_⟩)
            have h1 := sub (v, y) (by rw [ht]; exact List.mem_append_left _ (hm.only v y q2))
            have h2 := sub (v, w) (by rw [ht]; simp)
            have h3 := ok _ h1 _ h2 (Int.le_refl _)
            have h4 := ok _ h2 _ h1 (Int.le_refl _)
            dsimp only at h3 h4
            exact e (by omega))
    (fun ρ ⟨dn, m, a, hd, hm, fa, e⟩ => .inr ⟨m, a, by simp at hd; rw [← hd]; exact hm, fa, by rw [e]⟩)
theorem pw_map {f : Int → Int} {xs : List Int} : (xs.map f).Pairwise (· ≤ ·) ↔ xs.Pairwise fun a b => f a ≤ f b := List.pairwise_map
theorem marks_mono {n : List Piece} {k : Ky} {m : IK} (hm : Marks n k m) : ((sortI (m.map (·.1))).map fun x => (lookI m x).getD 0) = sortI ((sortI (m.map (·.1))).map fun x => (lookI m x).getD 0) ↔ TimesOk n k := by
  have st := sortI_strict hm.nodup
  have mem : ∀ x, x ∈ sortI (m.map (·.1)) ↔ x ∈ m.map (·.1) := fun x => (sortI_perm _).mem_iff
  have inm : ∀ a ∈ timesL n k, a.1 ∈ sortI (m.map (·.1)) := fun a ha => by
    rw [mem]
    cases q : lookI m a.1 with
    | none => rw [hm.all a ha] at q; cases q
    | some w =>
      by_cases h : a.1 ∈ m.map (·.1)
      · exact h
      · rw [lookI_none.mpr h] at q; cases q
  have srt : ((sortI (m.map (·.1))).map fun x => (lookI m x).getD 0) = sortI ((sortI (m.map (·.1))).map fun x => (lookI m x).getD 0) ↔ ((sortI (m.map (·.1))).map fun x => (lookI m x).getD 0).Pairwise (· ≤ ·) :=
    ⟨fun h => by rw [h]; exact sortI_sorted _, fun h => sorted_is (.refl _) h⟩
  rw [srt, pw_map]
  constructor
  · intro pw a ha b hb hab
    have h1 := hm.all a ha
    have h2 := hm.all b hb
    by_cases e : a.1 = b.1
    · rw [e, h2] at h1
      have := Option.some.inj h1
      omega
    · have lt : a.1 < b.1 := by omega
      have both := st.and pw
      have ia := inm a ha
      have ib := inm b hb
      have key : ∀ {l : List Int}, l.Pairwise (fun x y => x < y ∧ (lookI m x).getD 0 ≤ (lookI m y).getD 0) → ∀ x ∈ l, ∀ y ∈ l, x < y → (lookI m x).getD 0 ≤ (lookI m y).getD 0 := by
        intro l hl
        induction hl with
        | nil => intro x hx; cases hx
        | @cons z l hz _ ih =>
          intro x hx y hy hxy
          rcases List.mem_cons.mp hx with e1 | h1 <;> rcases List.mem_cons.mp hy with e2 | h2
          · omega
          · rw [e1]; exact (hz y h2).2
          · have := (hz x h1).1; omega
          · exact ih x h1 y h2 hxy
      have := key both a.1 ia b.1 ib lt
      rw [h1, h2] at this
      exact this
  · intro ok
    refine List.Pairwise.imp_of_mem ?_ st
    intro x y hx hy hxy
    have fx : ∀ z ∈ sortI (m.map (·.1)), ∃ w, lookI m z = some w := fun z hz => by
      cases q : lookI m z with
      | none => exact absurd ((mem z).mp hz) (lookI_none.mp q)
      | some w => exact ⟨w, rfl⟩
    obtain ⟨wx, ex⟩ := fx x hx
    obtain ⟨wy, ey⟩ := fx y hy
    rw [ex, ey]
    exact ok _ (hm.only x wx ex) _ (hm.only y wy ey) (by dsimp only; omega)

theorem gNe_ints (xs ys : List Int) : gNe (.list (xs.map .int)) (.list (ys.map .int)) = some (.bool (!decide (xs = ys))) := by
  refine gNe_plain (n := 1) ?_ ?_ ?_
  · show (xs.map PyData.int).all (Vx.plain 0) = true
    simp [Vx.plain]
  · show (ys.map PyData.int).all (Vx.plain 0) = true
    simp [Vx.plain]
  · simp only [PyData.list.injEq]
    exact map_inj fun a b h => by cases h; rfl
/-! cells -/
def didB (v : Int) (k : Ky) (p : Piece) : Bool := decide (p = .did v k)
def wroteB (v : Int) (k : Ky) : Piece → Bool
  | .wrote v' ks => decide (v' = v) && decide (k ∈ ks)
  | _ => false
theorem due_split (n : List Piece) (v : Int) (k : Ky) : isDue n v k = (n.any (didB v k) || n.any (wroteB v k)) := by
  unfold isDue
  induction n with
  | nil => rfl
  | cons p n ih =>
    rw [List.any_cons, List.any_cons, List.any_cons, ih]
    have : dueP v k p = (didB v k p || wroteB v k p) := by
      cases p <;> simp [dueP, didB, wroteB]
    rw [this]
    cases didB v k p <;> cases wroteB v k p <;> simp
def secD : Piece → PyData
  | .head v => .int v
  | .times k _ _ => kd k
  | .value k _ _ => kd k
  | .wrote v _ => .int v
  | .among v _ => .int v
  | .many v _ => .int v
  | .did v _ => .int v
theorem sl_two (p : Piece) : gSl p.enc none (some 2) = some (.tuple [.str (tagS p), secD p]) := by cases p <;> rfl
theorem gEq_wrote (p : Piece) (v : Int) : gEq (.tuple [.str (tagS p), secD p]) (.tuple [.str "wrote", .int v]) = some (.bool (match p with | .wrote v' _ => decide (v' = v) | _ => false)) := by
  have pl : Vx.plain 1 (.tuple [.str (tagS p), secD p]) = true := by cases p <;> simp [Vx.plain, tagS, secD, Ky.ok]
  have pl2 : Vx.plain 1 (.tuple [.str "wrote", .int v]) = true := by simp [Vx.plain]
  cases p with
  | wrote v' ks => exact (gEq_plain pl pl2 (p := v' = v) (by simp [tagS, secD]))
  | _ => exact (gEq_plain pl pl2 (p := False) (by simp [tagS, secD])).trans (by simp)
theorem filt_empty {α : Type} (c : α → Bool) (xs : List α) (f : α → PyData) : ((xs.filter c).map f).isEmpty = !xs.any c := by
  induction xs with
  | nil => rfl
  | cons x xs ih =>
    rw [List.any_cons, List.filter_cons]
    cases c x <;> simp [ih]
theorem clash_cells (n : List Piece) (k : Ky) (hn : n.length ≤ 100) (A : PyData) (T : Kvs) (a b d e7 e8 e9 e10 e11 e12 : Sl) (fa : fr a = true) (f10 : fr e10 = true) (f11 : fr e11 = true) (f12 : fr e12 = true) (vs : List Int) : Ok (loopD (gNm 10) l3__law_clash (vs.map .int) [.val A, .val (encN n), .own (.dct T), a, b, .val (kd k), d, e7, e8, e9, e10, e11, e12]) fun q =>
    (q.1 = .rt (.val (.bool true)) ∧ ∃ v ∈ vs, isShut n v k = true ∧ isDue n v k = true) ∨ ((∀ v ∈ vs, ¬ (isShut n v k = true ∧ isDue n v k = true)) ∧ ∃ a e10 e11 e12, fr a = true ∧ fr e10 = true ∧ fr e11 = true ∧ fr e12 = true ∧ q = (.nx, [.val A, .val (encN n), .own (.dct T), a, b, .val (kd k), d, e7, e8, e9, e10, e11, e12])) := by
  have s3 : (3 : Nat) ≤ sizeLine := small_line 3 (by decide)
  have s2 : (2 : Nat) ≤ sizeLine := small_line 2 (by decide)
  have hN : encN n = .list (n.map Piece.enc) := rfl
  have gd : ∀ (p : Piece) (v : Int), gEq p.enc (.tuple [.str "did", .int v, .str k.s]) = some (.bool (didB v k p)) := fun p v => gEq_enc p (.did v k)
  refine ok_loop (fun rest ρ => ∃ (dn : List Int) (a e10 e11 e12 : Sl), dn ++ rest = vs ∧ (∀ v ∈ dn, ¬ (isShut n v k = true ∧ isDue n v k = true)) ∧ fr a = true ∧ fr e10 = true ∧ fr e11 = true ∧ fr e12 = true ∧ ρ = [.val A, .val (encN n), .own (.dct T), a, b, .val (kd k), d, e7, e8, e9, e10, e11, e12])
    ⟨[], a, e10, e11, e12, rfl, by simp, fa, f10, f11, f12, rfl⟩
    (fun v rest ρ hv ⟨dn, a, e10, e11, e12, hd, hc, fa, f10, f11, f12, e⟩ => by
      subst e
      have c1 : ∀ (x y : Sl), compD (gNm 3) t1__law_clash (mV (dC (.int 1))) [3] (n.map Piece.enc) [.val A, .val (encN n), .own (.dct T), .un, b, .val (kd k), d, e7, e8, e9, .val (.int v), x, y] = some ((n.filter (didB v k)).map (fun _ => .int 1), [.val A, .val (encN n), .own (.dct T), .un, b, .val (kd k), d, e7, e8, e9, .val (.int v), x, y]) := fun x y =>
        comp_fm _ _ fun p hp => by
          have g := gd p v
          cases q : didB v k p <;> rw [q] at g <;> simp [stepD, t1__law_clash, s3, g]
      have c2 : ∀ (x y : Sl), compD (gNm 3) t2__law_clash (mV (dC (.int 1))) [3] (n.map Piece.enc) [.val A, .val (encN n), .own (.dct T), .un, b, .val (kd k), d, e7, e8, e9, .val (.int v), x, y] = some ((n.filter (wroteB v k)).map (fun _ => .int 1), [.val A, .val (encN n), .own (.dct T), .un, b, .val (kd k), d, e7, e8, e9, .val (.int v), x, y]) := fun x y =>
        comp_fm _ _ fun p hp => by
          have g1 := sl_two p
          have g2 := gEq_wrote p v
          cases p with
          | wrote v' ks =>
            have ix2 : gIx (Piece.wrote v' ks).enc (.int 2) = some (kds ks) := by simp [Piece.enc]
            dsimp only at g2
            by_cases q : v' = v
            · rw [decide_eq_true q] at g2
              have wb : wroteB v k (.wrote v' ks) = decide (k ∈ ks) := by simp [wroteB, q]
              by_cases q2 : k ∈ ks <;> simp [stepD, t2__law_clash, s2, g1, g2, ix2, q2, wb]
            · rw [decide_eq_false q] at g2
              simp [stepD, t2__law_clash, s2, g1, g2, q, wroteB]
          | _ =>
            dsimp only at g2
            simp [stepD, t2__law_clash, s2, g1, g2, wroteB]
      have c3 : ∀ (x y : Sl), compD (gNm 3) t3__law_clash (mV (dC (.int 1))) [3] (n.map Piece.enc) [.val A, .val (encN n), .own (.dct T), .un, b, .val (kd k), d, e7, e8, e9, .val (.int v), x, y] = some ((n.filter (shutP v k)).map (fun _ => .int 1), [.val A, .val (encN n), .own (.dct T), .un, b, .val (kd k), d, e7, e8, e9, .val (.int v), x, y]) := fun x y =>
        comp_fm _ _ fun p hp => by
          cases p with
          | wrote v' ks =>
            by_cases q : v' = v
            · by_cases q2 : k ∈ ks <;> simp [stepD, t3__law_clash, s2, q, q2, shutP, Piece.enc]
            · simp [stepD, t3__law_clash, s2, q, shutP, Piece.enc]
          | among v' ks =>
            by_cases q : v' = v
            · by_cases q2 : k ∈ ks <;> simp [stepD, t3__law_clash, s2, q, q2, shutP, Piece.enc]
            · simp [stepD, t3__law_clash, s2, q, shutP, Piece.enc]
          | _ => simp [stepD, t3__law_clash, s2, shutP, Piece.enc]
      obtain ⟨D1, hD1⟩ : ∃ D, D = (n.filter (didB v k)).map (fun _ => PyData.int 1) := ⟨_, rfl⟩
      obtain ⟨D2, hD2⟩ : ∃ D, D = (n.filter (wroteB v k)).map (fun _ => PyData.int 1) := ⟨_, rfl⟩
      obtain ⟨D3, hD3⟩ : ∃ D, D = (n.filter (shutP v k)).map (fun _ => PyData.int 1) := ⟨_, rfl⟩
      have em1 : D1.isEmpty = !n.any (didB v k) := by rw [hD1]; exact filt_empty _ _ _
      have em2 : D2.isEmpty = !n.any (wroteB v k) := by rw [hD2]; exact filt_empty _ _ _
      have em3 : D3.isEmpty = !isShut n v k := by rw [hD3]; exact filt_empty _ _ _
      have l1 : D1.length ≤ 100 := by rw [hD1, List.length_map]; have := List.length_filter_le (didB v k) n; omega
      have l2 : D2.length ≤ 100 := by rw [hD2, List.length_map]; have := List.length_filter_le (wroteB v k) n; omega
      simp only [← hD1] at c1
      simp only [← hD2] at c2
      simp only [← hD3] at c3
      have ga : gAdd (.list D1) (.list D2) = some (.list (D1 ++ D2)) := by
        show (if _ then _ else _) = _
        rw [if_pos (by rw [sizeLine_eq]; omega)]
      have em12 : truD (.list (D1 ++ D2)) = some (isDue n v k) := by
        rw [truD_l, due_split]
        have : (D1 ++ D2).isEmpty = (D1.isEmpty && D2.isEmpty) := by cases D1 <;> simp
        rw [this, em1, em2]
        cases n.any (didB v k) <;> cases n.any (wroteB v k) <;> rfl
      have em3' : truD (.list D3) = some (isShut n v k) := by rw [truD_l, em3]; simp
      have hd2 : (dn ++ [v]) ++ rest = vs := by simpa using hd
      rw [hN] at c1 c2 c3
      rw [hN]
      by_cases q : isShut n v k = true ∧ isDue n v k = true
      · rw [q.2] at em12
        rw [q.1] at em3'
        exact st_rt (by simp [fa, f10, f11, f12, l3__law_clash, c1, c2, ga, c3, em12, em3']; rfl) (.inl ⟨rfl, v, hv, q⟩)
      · refine st_nx (ρ := [.val A, .val (.list (n.map Piece.enc)), .own (.dct T), .un, b, .val (kd k), d, e7, e8, e9, .val (.int v), .val (.list (D1 ++ D2)), .own (.lst D3)]) ?_ ⟨dn ++ [v], .un, .val (.int v), .val (.list (D1 ++ D2)), .own (.lst D3), hd2, fun x hx => ?_, rfl, rfl, rfl, rfl, rfl⟩
        · cases q1 : isDue n v k with
          | false =>
            rw [q1] at em12
            simp [fa, f10, f11, f12, l3__law_clash, c1, c2, ga, c3, em12]
          | true =>
            have q2 : isShut n v k = false := by
              cases q2 : isShut n v k with
              | false => rfl
              | true => exact absurd ⟨q2, q1⟩ q
            rw [q1] at em12
            rw [q2] at em3'
            simp [fa, f10, f11, f12, l3__law_clash, c1, c2, ga, c3, em12, em3']
        · rcases List.mem_append.mp hx with hx | hx
          · exact hc x hx
          · rw [List.mem_singleton.mp hx]; exact q)
    (fun ρ ⟨dn, a, e10, e11, e12, hd, hc, fa, f10, f11, f12, e⟩ => .inr ⟨by simp at hd; rw [← hd]; exact hc, a, e10, e11, e12, fa, f10, f11, f12, by rw [e]⟩)
theorem e_law_clash (sh : List Ky) (n : List Piece) (hn : n.length < 63) (hh : headOf n ≤ 100) : ∃ b : Bool, (b = true ↔ ¬ NoClash sh n) ∧ d__law_clash [.val (kds sh), .val (encN n)] = some (.val (.bool b), [.val (kds sh), .val (encN n)]) := by
  have h0 := headOf_nn n
  have eh := e_law_head n
  have hN : encN n = .list (n.map Piece.enc) := rfl
  obtain ⟨⟨f1, ρ1⟩, e1, r1⟩ := clash_loop1 sh n (by omega)
  rcases r1 with ⟨rfl, bad⟩ | ⟨T, a, b, c, d, hf, fa, fb, fc, fd, e⟩
  · refine ⟨true, ⟨fun _ z => bad ⟨z.names, z.number, z.value⟩, fun _ => rfl⟩, ?_⟩
    simp [hN] at e1
    simp [d__law_clash, b__law_clash, hN, e1, backIn]
  · cases e
    have l1 : (headOf n) ≤ 16777216 := by omega
    have r1 : -(4611686018427387904 : Int) ≤ headOf n + 1 ∧ headOf n + 1 < 4611686018427387904 := by omega
    have r2 : headOf n + 1 - 1 = headOf n := by omega
    have hrg : rngD 1 (headOf n).toNat = (versL n).map .int := by simp [rngD, versL]
    obtain ⟨⟨f2, ρ2⟩, e2, r2'⟩ := ok_loop (g := gNm 5) (m := l4__law_clash) (enc := kd) (xs := sh) (ρ := [.val (kds sh), .val (encN n), .own (.dct T), a, b, c, d, .un, .un, .un, .un, .un, .un])
      (Post := fun q => (q.1 = .rt (.val (.bool true)) ∧ ¬ ∀ k ∈ sh, TimesOk n k ∧ CellsOk n k) ∨ (q.1 = .nx ∧ ∀ k ∈ sh, TimesOk n k ∧ CellsOk n k))
      (fun rest ρ => ∃ (dn : List Ky) (a c e7 e8 e10 e11 e12 : Sl), dn ++ rest = sh ∧ (∀ k ∈ dn, TimesOk n k ∧ CellsOk n k) ∧ fr a = true ∧ fr c = true ∧ fr e7 = true ∧ fr e8 = true ∧ fr e10 = true ∧ fr e11 = true ∧ fr e12 = true ∧ ρ = [.val (kds sh), .val (encN n), .own (.dct T), a, b, c, d, e7, e8, .un, e10, e11, e12])
      ⟨[], a, c, .un, .un, .un, .un, .un, rfl, by simp, fa, fc, rfl, rfl, rfl, rfl, rfl, rfl⟩
      (fun k rest ρ hk ⟨dn, a, c, e7, e8, e10, e11, e12, hd, hc, fa, fc, f7, f8, f10, f11, f12, e⟩ => by
        subst e
        have hd2 : (dn ++ [k]) ++ rest = sh := by simpa using hd
        obtain ⟨⟨g1, σ1⟩, x1, y1⟩ := clash_marks n k (by omega) (kds sh) (encN n) T a b d e8 .un e10 e11 e12 fa
        rcases y1 with ⟨rfl, bad⟩ | ⟨m, a', hm, fa', e⟩
        · simp [hN] at x1
          exact st_rt (by simp [fc, f7, l4__law_clash, encIK0, hN, x1]; rfl) (.inl ⟨rfl, fun z => bad (z k hk).1⟩)
        · cases e
          have ks := keys_encIK m
          have gsk : gSorted [.list ((encIK m).map (fun q => q.1.data))] = some ((sortI (m.map (·.1))).map .int) := by rw [ks]; exact gSorted_map _
          have lk : ∀ x ∈ sortI (m.map (·.1)), ∃ w, lookI m x = some w := fun x hx => by
            have hi2 : x ∈ m.map (·.1) := (sortI_perm _).mem_iff.mp hx
            cases q : lookI m x with
            | none => exact absurd hi2 (lookI_none.mp q)
            | some w => exact ⟨w, rfl⟩
          have c8 : compD (gNm 9) tYesM (mV (dDIx 7 (dVar 9))) [9] ((sortI (m.map (·.1))).map .int) [.val (kds sh), .val (encN n), .own (.dct T), a', b, .val (kd k), d, .own (.dct (encIK m)), e8, .un, e10, e11, e12] = some (((sortI (m.map (·.1))).map fun x => (lookI m x).getD 0).map .int, [.val (kds sh), .val (encN n), .own (.dct T), a', b, .val (kd k), d, .own (.dct (encIK m)), e8, .un, e10, e11, e12]) := by
            rw [List.map_map]
            refine compD_mp _ fun x hx => ?_
            obtain ⟨w, hw⟩ := lk x hx
            simp [stepD, hw]
          have mm := marks_mono hm
          obtain ⟨X, hX⟩ : ∃ X, X = (sortI (m.map (·.1))).map fun x => (lookI m x).getD 0 := ⟨_, rfl⟩
          rw [← hX] at c8 mm
          have g3 := gSorted_map X
          have g4 := gNe_ints X (sortI X)
          obtain ⟨D, hD⟩ : ∃ D, D = (sortI (m.map (·.1))).map PyData.int := ⟨_, rfl⟩
          obtain ⟨E, hE⟩ : ∃ E, E = X.map PyData.int := ⟨_, rfl⟩
          obtain ⟨F, hF⟩ : ∃ E, E = (sortI X).map PyData.int := ⟨_, rfl⟩
          rw [← hD] at c8 gsk
          rw [← hE] at c8 g3 g4
          rw [← hF] at g3 g4
          by_cases ok : TimesOk n k
          · have : X = sortI X := mm.mpr ok
            rw [decide_eq_true this] at g4
            obtain ⟨⟨g2, σ2⟩, x2, y2⟩ := clash_cells n k (by omega) (kds sh) T a' b d (.own (.dct (encIK m))) (.own (.lst E)) .un e10 e11 e12 fa' f10 f11 f12 (versL n)
            obtain ⟨V, hV⟩ : ∃ V, V = (versL n).map PyData.int := ⟨_, rfl⟩
            rw [← hV] at x2
            have hrg2 : rngD 1 (headOf n).toNat = V := by rw [hrg, hV]
            rw [hN] at eh
            rcases y2 with ⟨rfl, v, hv, q⟩ | ⟨hcell, a2, e10', e11', e12', fa2, f10', f11', f12', e⟩
            · simp [hN] at x1 x2 c8
              exact st_rt (by simp [fc, f7, f8, l4__law_clash, encIK0, hN, x1, gsk, c8, g3, g4, eh, iosOf, mkIn, putB, l1, r1, r2, hrg2, x2]; rfl) (.inl ⟨rfl, fun z => (z k hk).2 v hv q⟩)
            · cases e
              simp [hN] at x1 x2 c8
              refine st_nx (by simp [fc, f7, f8, l4__law_clash, encIK0, hN, x1, gsk, c8, g3, g4, eh, iosOf, mkIn, putB, l1, r1, r2, hrg2, x2]; rfl) ?_
              refine ⟨dn ++ [k], a2, .val (kd k), .own (.dct (encIK m)), .own (.lst E), e10', e11', e12', hd2, fun x hx => ?_, fa2, rfl, rfl, rfl, f10', f11', f12', rfl⟩
              rcases List.mem_append.mp hx with hx | hx
              · exact hc x hx
              · rw [List.mem_singleton.mp hx]; exact ⟨ok, hcell⟩
          · have ne : ¬ X = sortI X := fun z => ok (mm.mp z)
            rw [decide_eq_false ne] at g4
            simp [hN] at x1 c8
            exact st_rt (by simp [fc, f7, f8, l4__law_clash, encIK0, hN, x1, gsk, c8, g3, g4]; rfl) (.inl ⟨rfl, fun z => ok (z k hk).1⟩))
      (fun ρ ⟨dn, a, c, e7, e8, e10, e11, e12, hd, hc, _⟩ => .inr ⟨rfl, by simp at hd; rw [← hd]; exact hc⟩)
    rcases r2' with ⟨q, bad⟩ | ⟨q, good⟩
    · dsimp only at q
      subst q
      refine ⟨true, ⟨fun _ z => bad fun k hk => ⟨z.times k hk, z.cells k hk⟩, fun _ => rfl⟩, ?_⟩
      simp [hN] at e1 e2
      simp [d__law_clash, b__law_clash, hN, e1, e2, backIn]
    · dsimp only at q
      subst q
      refine ⟨false, ⟨(fun z => nomatch z), fun z => absurd ⟨hf.1, hf.2.1, hf.2.2, fun k hk => (good k hk).1, fun k hk => (good k hk).2⟩ z⟩, ?_⟩
      simp [hN] at e1 e2
      simp [d__law_clash, b__law_clash, hN, e1, e2, backIn]
end Vw
/-! Vk04: the law of k04. -/
namespace Vw
open PySem PySem.Spec L2 Vx

theorem sub_filterG {α : Type} [DecidableEq α] {ks sh : List α} (nd : sh.Nodup) (h : ks.Sublist sh) : ks = sh.filter fun k => decide (k ∈ ks) := by
  induction h with
  | slnil => rfl
  | @cons l1 l2 a h ih =>
    rw [List.nodup_cons] at nd
    have : a ∉ l1 := fun q => nd.1 (h.subset q)
    rw [List.filter_cons_of_neg (by simpa using this)]
    exact ih nd.2
  | @cons_cons l1 l2 a h ih =>
    rw [List.nodup_cons] at nd
    rw [List.filter_cons_of_pos (by simp)]
    congr 1
    refine (ih nd.2).trans (List.filter_congr fun x hx => ?_)
    have : x ≠ a := fun q => nd.1 (q ▸ hx)
    simp [this]
/-- what a comprehension with a drawn test leaves -/
theorem draw_subG {α : Type} {g : GM} {t : TM} {m : VM} {vs : List Nat} {R : List PyData → Rho} {enc out : α → PyData} {xs : List α} {o : List PyData} (ho : DrawOk o)
    (step : ∀ x ∈ xs, ∀ o, DrawOk o → ∃ (b : Bool) (o' : List PyData), DrawOk o' ∧ stepD g t m vs (enc x) (R o) = some (if b = true then some (out x) else none, R o')) :
    Ok (compD g t m vs (xs.map enc) (R o)) fun p => ∃ (ks : List α) (o' : List PyData), ks.Sublist xs ∧ DrawOk o' ∧ p = (ks.map out, R o') :=
  ok_comp (fun dn ds ρ => ∃ (ks : List α) (o' : List PyData), ks.Sublist dn ∧ DrawOk o' ∧ ds = ks.map out ∧ ρ = R o') ⟨[], o, .slnil, ho, rfl, rfl⟩
    (fun k l ds ρ hk ⟨ks, o1, hs, h1, hd, hr⟩ => by
      subst hr hd
      obtain ⟨b, o2, h2, e⟩ := step k hk o1 h1
      refine ⟨_, e, ?_⟩
      cases b with
      | true => exact ⟨ks ++ [k], o2, hs.append (.refl _), h2, by simp, rfl⟩
      | false => exact ⟨ks, o2, hs.trans (List.sublist_append_left _ _), h2, by simp, rfl⟩)
    (fun ds ρ ⟨ks, o', hs, h', hd, hr⟩ => ⟨ks, o', hs, h', by rw [hd, hr]⟩)
theorem headOf_le {n : List Piece} {m : Int} (hm : 0 ≤ m) (h : ∀ p ∈ n, p.ver ≤ m) : headOf n ≤ m := by
  have : ∀ (xs : List Int) (a : Int), a ≤ m → (∀ x ∈ xs, x ≤ m) → xs.foldl max a ≤ m := by
    intro xs
    induction xs with
    | nil => intro a h _; exact h
    | cons y ys ih => intro a h1 h2; rw [List.foldl_cons]; exact ih _ (by have := h2 y (by simp); omega) fun x hx => h2 x (by simp [hx])
  exact this _ 0 hm fun x hx => by obtain ⟨p, hp, rfl⟩ := List.mem_map.mp hx; exact h p hp
theorem WfP.ver {sh : List Ky} {m : Int} (hm : 0 ≤ m) : ∀ {p : Piece}, WfP sh m p → p.ver ≤ m
  | .head _, h => h.2
  | .times _ _ _, h => h.2.2.1
  | .value _ _ _, _ => hm
  | .wrote _ _, h => h.1.2
  | .among _ _, h => h.1.2
  | .many _ _, h => h.1.2
  | .did _ _, h => h.1.2
theorem writes_len {sh : List Ky} {h : Hist} (hg : ∀ c ∈ h, GoodC sh c) (k : Ky) : (writesOf h k).length ≤ h.length * sh.length := by
  induction h with
  | nil => simp [writesOf]
  | cons c h ih =>
    have h1 := ih fun x hx => hg x (by simp [hx])
    have h2 := (hg c (by simp)).2.length_le
    have h3 := List.length_filter_le (fun p : Ky × Int => decide (p.1 = k)) c
    unfold writesOf at h1 ⊢
    rw [List.flatMap_cons, List.length_append, List.length_map, List.length_cons, Nat.add_mul]
    rw [List.length_map] at h2
    omega
theorem selfOk_S (S : List Stretch) (h : S.length ≤ 10000) : selfOk 7 (.list (S.map encS)) = true := by
  show (decide ((S.map encS).length ≤ 16777216) && (S.map encS).all (selfOk 6)) = true
  rw [Bool.and_eq_true, List.all_eq_true, decide_eq_true_eq, List.length_map]
  refine ⟨by omega, fun x hx => ?_⟩
  obtain ⟨s, _, rfl⟩ := List.mem_map.mp hx
  simp [encS, selfOk, s.key.ok]
theorem versL_nodup (n : List Piece) : (versL n).Nodup := by
  unfold versL
  rw [List.nodup_iff_pairwise_ne, List.pairwise_map]
  exact (List.nodup_iff_pairwise_ne.mp List.nodup_range).imp fun h e => h (by omega)
theorem versL_mem {n : List Piece} {v : Int} : v ∈ versL n ↔ 1 ≤ v ∧ v ≤ headOf n := by
  unfold versL
  rw [List.mem_map]
  constructor
  · rintro ⟨i, hi, rfl⟩
    rw [List.mem_range] at hi
    omega
  · intro h
    exact ⟨(v - 1).toNat, by rw [List.mem_range]; omega, by omega⟩
theorem e_lawB (s : List Int) : ∃ ρ', b_law (.val (.list (s.map .int)) :: List.replicate 14 .un) = some (.rt (.val (.bool true)), ρ') := by
  obtain ⟨Sc, hSc⟩ : ∃ Sc, Sc = PyData.list (s.map .int) := ⟨_, rfl⟩
  have ed := e_draw s
  rw [← hSc] at ed ⊢
  have s3 : (3 : Nat) ≤ sizeLine := small_line 3 (by decide)
  have s2 : (2 : Nat) ≤ sizeLine := small_line 2 (by decide)
  obtain ⟨sh, hsh, o1, h1, es⟩ := e_shelf (o := drawD s 0 0 17) ⟨s, 0, 0, 17, rfl, by decide⟩ (m := 5) (by decide) (by decide)
  obtain ⟨nd, sne, sl⟩ := shelvesA_good sh (List.mem_of_mem_take hsh)
  obtain ⟨r, o2, r0, r1, h2, en⟩ := e_next h1 (m := 6) (by decide) (by decide)
  obtain ⟨m, hm⟩ : ∃ m : Nat, 1 + r = m := ⟨(1 + r).toNat, by omega⟩
  have m1 : 1 ≤ m := by omega
  have m2 : m ≤ 6 := by omega
  obtain ⟨H, hl, hg, o3, h3, eh⟩ := e_history h2 sne (by omega) (m := m) (by omega)
  have hw : ∀ k, (writesOf H k).length ≤ 10000 := fun k => by
    have := writes_len hg k
    have := Nat.mul_le_mul (show H.length ≤ 6 by omega) sl
    omega
  obtain ⟨n1, n1l, n1o, n1w, o4, h4, e1⟩ := e_news h3 (by omega) hg sne (by omega) hw (m := 6) (by decide)
  obtain ⟨r2, o5, r20, r21, h5, en2⟩ := e_next h4 (m := 5) (by decide) (by decide)
  obtain ⟨q, ew, n2, o6, n2l, n2w, h6, rfl⟩ := ok_comp (g := gNm 6) (t := tYesM) (m := c1_law) (vs := [6]) (enc := fun (i : Nat) => .int (0 + i)) (xs := List.range r2.toNat) (ρ := [.val Sc, .own (.lst o5), .val (kds sh), .val (.int m), .val (encH H), .un, .un, .un, .un, .un, .un, .un, .un, .un, .un])
    (Post := fun p => ∃ (n : List Piece) (o : List PyData), n.length = r2.toNat ∧ (∀ p ∈ n, WfP sh m p) ∧ DrawOk o ∧ p = (n.map Piece.enc, [.val Sc, .own (.lst o), .val (kds sh), .val (.int m), .val (encH H), .un, .un, .un, .un, .un, .un, .un, .un, .un, .un]))
    (fun dn ds ρ => ∃ (n : List Piece) (o : List PyData), n.length = dn.length ∧ (∀ p ∈ n, WfP sh m p) ∧ DrawOk o ∧ ds = n.map Piece.enc ∧ ρ = [.val Sc, .own (.lst o), .val (kds sh), .val (.int m), .val (encH H), .un, .un, .un, .un, .un, .un, .un, .un, .un, .un])
    ⟨[], o5, rfl, by simp, h5, rfl, rfl⟩ (fun i l ds ρ hi ⟨n, o, hnl, hnw, ho, hd, hr⟩ => by
      subst hr hd
      obtain ⟨p, wf, o', ho', e⟩ := e_wild ho sne (by omega) (m := m) m1 (by omega)
      refine ⟨(some p.enc, [.val Sc, .own (.lst o'), .val (kds sh), .val (.int m), .val (encH H), .un, .un, .un, .un, .un, .un, .un, .un, .un, .un]), by simp [stepD, c1_law, e, iosOf, mkIn, putB], n ++ [p], o', by simp [hnl], fun x hx => ?_, ho', by simp, rfl⟩
      rcases List.mem_append.mp hx with hx | hx
      · exact hnw x hx
      · rw [List.mem_singleton.mp hx]; exact wf)
    (fun ds ρ ⟨n, o, hnl, hnw, ho, hd, hr⟩ => ⟨n, o, by simpa using hnl, hnw, ho, by rw [hd, hr]⟩)
  obtain ⟨n, hn⟩ : ∃ n, n = n1 ++ n2 := ⟨_, rfl⟩
  have nl : n.length ≤ 10 := by rw [hn, List.length_append]; omega
  have nw : ∀ p ∈ n, WfP sh m p := fun p hp => by
    rw [hn] at hp
    rcases List.mem_append.mp hp with hp | hp
    · have := (n1w p hp).1; rw [hl] at this; exact this
    · exact n2w p hp
  have hh : headOf n ≤ 6 := headOf_le (by decide) fun p hp => by have := WfP.ver (by omega) (nw p hp); omega
  have h0 := headOf_nn n
  have ht : ∀ p ∈ n, ∀ k v m, p = .times k v m → 0 ≤ v := fun p hp k v w e => by have := nw p hp; rw [e] at this; exact this.2.1
  have gc : gAdd (.list (n1.map Piece.enc)) (.list (n2.map Piece.enc)) = some (encN n) := by
    show (if _ then _ else _) = _
    rw [if_pos (by rw [sizeLine_eq]; simp; omega), hn]
    simp [encN]
  have l1 : r2 ≤ 16777216 := by omega
  have l2 : -(4611686018427387904 : Int) ≤ r2 := by omega
  simp only [Int.zero_add] at ew
  have eN : ∀ n, encN n = .list (n.map Piece.enc) := fun _ => rfl
  have e1' := e1
  simp only [eN n1] at e1'
  obtain ⟨b, hb, ec⟩ := e_law_clash sh n (by omega) (by omega)
  have est := e_law_stretches sh n (by omega) (by omega) ht
  have est2 := e_stretches sh n (by omega) (by omega)
  have hsl := stretchesL_len sh n
  have hsl2 : sh.length * (n.length + 1) ≤ 3 * 11 := Nat.mul_le_mul sl (by omega)
  have eir := fun p h1 h2 => e_is_right sh n p (by omega) (by omega) (by omega) h1 h2 (by omega)
  have elr := fun p => e_law_right sh n p (by omega) (by omega) (by omega) ht
  have plr := fun p h => lawRight_is sh n p h
  have elh := e_law_head n
  have sS := selfOk_S (stretchesL sh n) (by omega)
  obtain ⟨S, hS⟩ : ∃ S, S = stretchesL sh n := ⟨_, rfl⟩
  rw [← hS] at est est2 sS hsl
  obtain ⟨LS, hLS⟩ : ∃ L, L = PyData.list (S.map encS) := ⟨_, rfl⟩
  rw [← hLS] at est est2 sS
  obtain ⟨N, hN⟩ : ∃ N, N = encN n := ⟨_, rfl⟩
  obtain ⟨A, hA⟩ : ∃ A, A = kds sh := ⟨_, rfl⟩
  obtain ⟨B, hB⟩ : ∃ A, A = encH H := ⟨_, rfl⟩
  obtain ⟨N1, hN1⟩ : ∃ A, A = n1.map Piece.enc := ⟨_, rfl⟩
  obtain ⟨N2, hN2⟩ : ∃ A, A = n2.map Piece.enc := ⟨_, rfl⟩
  rw [← hN] at gc elh
  rw [← hN, ← hA] at ec est est2
  simp only [← hN, ← hA] at eir elr
  rw [← hA] at es eh e1' ew
  rw [← hB] at eh e1' ew
  rw [← hN1] at gc e1'
  rw [← hN2] at gc ew
  have ss := e_same8 sS
  have es : d__law_shelf [.io (.lst (drawD s 0 0 17)), .val (.int 5)] = some (.val A, [.io (.lst o1), .val (.int 5)]) := es
  have e1' : d__law_news [.io (.lst o3), .val A, .val B, .val (.int 6)] = some (.val (.list N1), [.io (.lst o4), .val A, .val B, .val (.int 6)]) := e1'
  -- the turns
  obtain ⟨⟨f, ρ'⟩, el, rfl, hrest⟩ := ok_loop (g := gNm 8) (m := l2_law) (enc := fun (i : Nat) => .int (0 + i)) (xs := List.range 6) (ρ := [.val Sc, .own (.lst o6), .val A, .val (.int m), .val B, .val N, .un, .val LS, .un, .un, .un, .un, .un, .un, .un])
    (Post := fun p => p.1 = .nx ∧ True)
    (fun rest ρ => ∃ (o : List PyData) (a b c d e : Sl), DrawOk o ∧ fr a = true ∧ fr b = true ∧ fr c = true ∧ fr d = true ∧ fr e = true ∧ ρ = [.val Sc, .own (.lst o), .val A, .val (.int m), .val B, .val N, .un, .val LS, a, b, c, .un, d, .un, e])
    ⟨o6, .un, .un, .un, .un, .un, h6, rfl, rfl, rfl, rfl, rfl, rfl⟩ (fun i rest ρ hi ⟨o, a, b, c, d, e, ho, fa, fb, fc, fd, fe, er⟩ => by
      subst er
      obtain ⟨r3, o7, r30, r31, h7, en3⟩ := e_next ho (m := 3) (by decide) (by decide)
      obtain ⟨w, hw⟩ : ∃ w, 2 + r3 = w := ⟨_, rfl⟩
      obtain ⟨q1, c1, P1, o8, P1s, h8, rfl⟩ := draw_subG (g := gNm 11) (t := t1_law) (m := c2_law) (vs := [11]) (enc := encS) (out := fun s => encT (triS s)) (xs := S) (R := fun o => [.val Sc, .own (.lst o), .val A, .val (.int m), .val B, .val N, .un, .val LS, .val (.int (0 + i)), .val (.int w), c, .un, d, .un, e]) h7 fun s hs o ho => by
        obtain ⟨r, o', r0, r1, h', en⟩ := e_next ho (m := w) (by omega) (by omega)
        refine ⟨decide (r = 0), o', h', ?_⟩
        by_cases q : r = 0 <;> simp [stepD, t1_law, c2_law, en, iosOf, mkIn, putB, q, gSl_S]
      obtain ⟨q2, c2, P2, o9, P2s, h9, rfl⟩ := draw_subG (g := gNm 13) (t := t2_law) (m := mV (dVar 13)) (vs := [13]) (enc := .int) (out := .int) (xs := versL n) (R := fun o => [.val Sc, .own (.lst o), .val A, .val (.int m), .val B, .val N, .un, .val LS, .val (.int (0 + i)), .val (.int w), .val (.tuple (P1.map fun s => encT (triS s))), .un, d, .un, e]) h8 fun v hv o ho => by
        obtain ⟨r, o', r0, r1, h', en⟩ := e_next ho (m := w) (by omega) (by omega)
        refine ⟨decide (r = 0), o', h', ?_⟩
        by_cases q : r = 0 <;> simp [stepD, t2_law, en, iosOf, mkIn, putB, q]
      have pv : P2 = (versL n).filter fun v => decide (v ∈ P2) := sub_filterG (versL_nodup n) P2s
      have hP2 : ∀ v ∈ P2, 1 ≤ v ∧ v ≤ headOf n := fun v hv => versL_mem.mp (P2s.subset hv)
      have hP2l : P2.length ≤ 20 := by have := P2s.length_le; simp [versL] at this; omega
      obtain ⟨T1, hT1⟩ : ∃ T, T = PyData.tuple (P1.map fun s => encT (triS s)) := ⟨_, rfl⟩
      obtain ⟨T2, hT2⟩ : ∃ T, T = PyData.tuple (P2.map .int) := ⟨_, rfl⟩
      have pe : ∀ full, encPaper ⟨full, P2, P1.map triS⟩ = .tuple [.str (kindS full), T2, T1] := fun full => by rw [hT1, hT2]; simp [encPaper]
      have i1 := fun full => eir ⟨full, P2, P1.map triS⟩ hP2 hP2l
      have i2 := fun full => elr ⟨full, P2, P1.map triS⟩
      have i3 := fun full => plr ⟨full, P2, P1.map triS⟩ pv
      simp only [pe] at i1 i2
      simp only [i3] at i2
      obtain ⟨R, hR⟩ : ∃ R : Bool → Bool, R = fun full => isRight sh n ⟨full, P2, P1.map triS⟩ := ⟨_, rfl⟩
      have j1 : ∀ full, d_is_right [.val A, .val N, .val (.tuple [.str (kindS full), T2, T1])] = some (.val (.bool (R full)), [.val A, .val N, .val (.tuple [.str (kindS full), T2, T1])]) := fun full => by rw [hR]; exact i1 full
      have j2 : ∀ full, d__law_right [.val A, .val N, .val (.tuple [.str (kindS full), T2, T1])] = some (.val (.bool (R full)), [.val A, .val N, .val (.tuple [.str (kindS full), T2, T1])]) := fun full => by rw [hR]; exact i2 full
      have ss := fun full => e_same8 (d := .bool (R full)) rfl
      have kk : [PyData.str "full", .str "empty"] = [true, false].map fun b => .str (kindS b) := rfl
      obtain ⟨⟨f, ρ'⟩, el, e', fe', ee⟩ := ok_loop (g := gNm 14) (m := l1_law) (enc := fun b => .str (kindS b)) (xs := [true, false]) (ρ := [.val Sc, .own (.lst o9), .val A, .val (.int m), .val B, .val N, .un, .val LS, .val (.int (0 + i)), .val (.int w), .val T1, .un, .val T2, .un, e])
        (Post := fun p => ∃ e, fr e = true ∧ p = (.nx, [.val Sc, .own (.lst o9), .val A, .val (.int m), .val B, .val N, .un, .val LS, .val (.int (0 + i)), .val (.int w), .val T1, .un, .val T2, .un, e]))
        (fun rest ρ => ∃ e, fr e = true ∧ ρ = [.val Sc, .own (.lst o9), .val A, .val (.int m), .val B, .val N, .un, .val LS, .val (.int (0 + i)), .val (.int w), .val T1, .un, .val T2, .un, e])
        ⟨e, fe, rfl⟩ (fun full rest ρ _ ⟨e, fe, er⟩ => by
          subst er
          have a1 := j1 full
          have a2 := j2 full
          have a3 := ss full
          exact st_nx (by simp [fe, l1_law, s3, a1, a2, a3, iosOf, mkIn, putB]) ⟨.str (kindS full) |> .val, rfl, rfl⟩) (fun ρ ⟨e, fe, er⟩ => ⟨e, fe, by rw [er]⟩)
      cases ee
      have hrg : rngD 1 (headOf n).toNat = (versL n).map .int := by simp [rngD, versL]
      obtain ⟨V, hV⟩ : ∃ V, V = (versL n).map PyData.int := ⟨_, rfl⟩
      rw [← hV] at c2 hrg
      obtain ⟨Q1, hQ1⟩ : ∃ V, V = P1.map fun s => encT (triS s) := ⟨_, rfl⟩
      obtain ⟨Q2, hQ2⟩ : ∃ V, V = P2.map PyData.int := ⟨_, rfl⟩
      rw [← hQ1] at c1 c2 hT1
      rw [← hQ2] at c2 hT2
      obtain ⟨LD, hLD⟩ : ∃ L, L = S.map encS := ⟨_, rfl⟩
      rw [← hLD] at c1
      have hsq : seqOf LS = some LD := by rw [hLS, hLD]; rfl
      subst hT1 hT2
      have l1 : (headOf n) ≤ 16777216 := by omega
      have r1 : -(4611686018427387904 : Int) ≤ headOf n + 1 ∧ headOf n + 1 < 4611686018427387904 := by omega
      have r2 : headOf n + 1 - 1 = headOf n := by omega
      refine st_nx (ρ := [.val Sc, .own (.lst o9), .val A, .val (.int m), .val B, .val N, .un, .val LS, .val (.int (0 + i)), .val (.int w), .val (.tuple Q1), .un, .val (.tuple Q2), .un, e']) ?_ ⟨o9, _, _, _, _, e', h9, rfl, rfl, rfl, rfl, fe', rfl⟩
      simp [kindS] at el
      simp at c1 c2
      simp [fa, fb, fc, fd, l2_law, en3, hw, hsq, c1, elh, iosOf, mkIn, putB, l1, r1, r2, hrg, c2, s2, el])
    (fun ρ _ => ⟨rfl, trivial⟩)
  simp at el
  cases b with
  | true => exact ⟨_, by simp [b_law, List.replicate, ed, es, en, hm, eh, e1', en2, rngD, l1, l2, ew, gc, ec, iosOf, mkIn, putB]; rfl⟩
  | false => exact ⟨_, by simp [b_law, List.replicate, ed, es, en, hm, eh, e1', en2, rngD, l1, l2, ew, gc, ec, est, est2, ss, el, iosOf, mkIn, putB]; rfl⟩
end Vw
namespace Vw
open PySem PySem.Spec L2 Vx
def top (i : Nat) : Stmt := PySem.Challenge.pw_suresnap_k04_papers_are_checked_by_count.main.body.getD i (.Pass ⟨0, 0, 0, 0⟩)

structure Tx (K : PySem.W.Frag) (mg : Str → Option Value) : Prop where
  x_version_of : Fx K mg "version_of" (top 1) ["piece"]
  x_head_of : Fx K mg "head_of" (top 2) ["news"]
  x_numbers_at : Fx K mg "numbers_at" (top 4) ["news", "version"]
  x_bounds : Fx K mg "bounds" (top 5) ["shelf", "news"]
  x_is_shut : Fx K mg "is_shut" (top 6) ["news", "version", "key"]
  x_is_due : Fx K mg "is_due" (top 7) ["news", "version", "key"]
  x_cell : Fx K mg "cell" (top 8) ["news", "version", "key"]
  x_marks_of : Fx K mg "marks_of" (top 9) ["news", "key"]
  x_stretches_of : Fx K mg "stretches_of" (top 10) ["news", "key"]
  x_stretches : Fx K mg "stretches" (top 11) ["shelf", "news"]
  x_cells : Fx K mg "cells" (top 13) ["versions", "parts"]
  x_count_cells : Fx K mg "count_cells" (top 14) ["news", "places", "states"]
  x_is_right : Fx K mg "is_right" (top 15) ["shelf", "news", "told"]
  x__law_draw : Fx K mg "_law_draw" (top 17) ["_law_script"]
  x__law_next : Fx K mg "_law_next" (top 18) ["_law_draw_here", "_law_many"]
  x__law_same : Fx K mg "_law_same" (top 19) ["_law_actual", "_law_due"]
  x__law_shelf : Fx K mg "_law_shelf" (top 20) ["_law_draw_here", "_law_most"]
  x__law_history : Fx K mg "_law_history" (top 21) ["_law_draw_here", "_law_shelf_here", "_law_versions"]
  x__law_values : Fx K mg "_law_values" (top 22) ["_law_history_here", "_law_key"]
  x__law_times : Fx K mg "_law_times" (top 23) ["_law_history_here", "_law_key", "_law_version"]
  x__law_told : Fx K mg "_law_told" (top 25) ["_law_draw_here", "_law_shelf_here", "_law_history_here"]
  x__law_once : Fx K mg "_law_once" (top 26) ["_law_news_here"]
  x__law_news : Fx K mg "_law_news" (top 27) ["_law_draw_here", "_law_shelf_here", "_law_history_here", "_law_most"]
  x__law_wild : Fx K mg "_law_wild" (top 28) ["_law_draw_here", "_law_shelf_here", "_law_versions"]
  x__law_head : Fx K mg "_law_head" (top 29) ["_law_news_here"]
  x__law_stretches : Fx K mg "_law_stretches" (top 30) ["_law_shelf_here", "_law_news_here"]
  x__law_cell : Fx K mg "_law_cell" (top 31) ["_law_news_here", "_law_version", "_law_key"]
  x__law_bounds : Fx K mg "_law_bounds" (top 32) ["_law_shelf_here", "_law_news_here", "_law_version"]
  x__law_right : Fx K mg "_law_right" (top 33) ["_law_shelf_here", "_law_news_here", "_law_given"]
  x__law_clash : Fx K mg "_law_clash" (top 34) ["_law_shelf_here", "_law_news_here"]
  x_law : Fx K mg "law" (top 35) ["_law_script"]
  z_len : mg "len" = none
  z_range : mg "range" = none
  z_tuple : mg "tuple" = none
  z_isinstance : mg "isinstance" = none
  z_list : mg "list" = none
  z_int : mg "int" = none
  z_all : mg "all" = none
  z_max : mg "max" = none
  z_abs : mg "abs" = none
  z_sum : mg "sum" = none
  z_str : mg "str" = none
  z_bool : mg "bool" = none
  z_sorted : mg "sorted" = none
section
variable {P : Program} {w : World} {K : PySem.W.Frag} {mg : Str → Option Value} {base : Heap}
theorem sc_version_of : FnScope ["piece"] ["piece"] (defScope (top 1)) := ⟨rfl, rfl, rfl, by decide +kernel, rfl, by decide +kernel, by decide +kernel⟩
theorem ok_version_of (T : Tx K mg) : OkF P w K mg base 1 "version_of" ["piece"] d_version_of :=
  okF T.x_version_of sc_version_of (by decide) (fun f cdv A outer s H E hr => ss_cons (se_if (bt_cmp (op_eqD (u64 hr)) opd_eq (re_ix ix_seq opd_ix (re_var 0) (re_int)) (re_str)) (ss_one (se_ret (ve_r (re_int)))) (ss_nil)) (ss_one (se_ret (ve_if (bt_cmp (op_eqD (u64 hr)) opd_eq (re_ix ix_seq opd_ix (re_var 0) (re_int)) (re_str)) (ve_r (re_ix ix_seq opd_ix (re_var 0) (re_int))) (ve_r (re_ix ix_seq opd_ix (re_var 0) (re_int)))))))
theorem sc_numbers_at : FnScope ["news", "version", "found", "piece"] ["news", "version"] (defScope (top 4)) := ⟨rfl, rfl, rfl, by decide +kernel, rfl, by decide +kernel, by decide +kernel⟩
theorem ok_numbers_at (T : Tx K mg) : OkF P w K mg base 1 "numbers_at" ["news", "version"] d_numbers_at :=
  okF T.x_numbers_at sc_numbers_at (by decide) (fun f cdv A outer s H E hr => ss_cons (se_setO 2 sc_numbers_at.nd (oe_lst (vs_nil))) (ss_cons (se_for PassesOwn.never rfl (ie_seq (ve_r (re_var 0))) (ge_name 3 sc_numbers_at.nd) (ss_cons (se_if (bt_w (bw_and (bt_cmp (op_eqD (u64 hr)) opd_eq (re_ix ix_seq opd_ix (re_var 3) (re_int)) (re_str)) (bw_and1 (bt_cmp (op_eqD (u64 hr)) opd_eq (re_ix ix_seq opd_ix (re_var 3) (re_int)) (re_var 1))))) (ss_one (se_app 2 (ve_r (re_ix ix_seq opd_ix (re_var 3) (re_int))))) (ss_nil)) (ss_one (se_if (bt_w (bw_and (bt_cmp (op_eqD (u64 hr)) opd_eq (re_ix ix_seq opd_ix (re_var 3) (re_int)) (re_str)) (bw_and1 (bt_cmp (op_eqD (u64 hr)) opd_eq (re_ix ix_seq opd_ix (re_var 3) (re_int)) (re_var 1))))) (ss_one (se_app 2 (ve_r (re_callR (pe_callB call_lenA (by rfl) T.z_len (by decide +kernel) (rs_cons (re_ix ix_seq opd_ix (re_var 3) (re_int)) (rs_nil))) rfl cd_len)))) (ss_nil))))) (ss_one (se_ret (ve_r (re_var 2))))))
theorem sc_is_shut : FnScope ["news", "version", "key", "piece"] ["news", "version", "key"] (defScope (top 6)) := ⟨rfl, rfl, rfl, by decide +kernel, rfl, by decide +kernel, by decide +kernel⟩
theorem ok_is_shut (T : Tx K mg) : OkF P w K mg base 1 "is_shut" ["news", "version", "key"] d_is_shut :=
  okF T.x_is_shut sc_is_shut (by decide) (fun f cdv A outer s H E hr => ss_cons (se_for PassesOwn.never rfl (ie_seq (ve_r (re_var 0))) (ge_name 3 sc_is_shut.nd) (ss_one (se_if (bt_w (bw_and (bt_cmp (op_inA (u65 hr)) opd_in (re_ix ix_seq opd_ix (re_var 3) (re_int)) (re_v (ve_tup (vs_cons (ve_r (re_str)) (vs_cons (ve_r (re_str)) (vs_nil)))))) (bw_and (bt_cmp (op_eqD (u64 hr)) opd_eq (re_ix ix_seq opd_ix (re_var 3) (re_int)) (re_var 1)) (bw_and1 (bt_cmp (op_notInA (u65 hr)) opd_notIn (re_var 2) (re_ix ix_seq opd_ix (re_var 3) (re_int))))))) (ss_one (se_ret (ve_r (re_bl)))) (ss_nil)))) (ss_one (se_ret (ve_r (re_bl)))))
theorem sc_is_due : FnScope ["news", "version", "key", "piece"] ["news", "version", "key"] (defScope (top 7)) := ⟨rfl, rfl, rfl, by decide +kernel, rfl, by decide +kernel, by decide +kernel⟩
theorem ok_is_due (T : Tx K mg) : OkF P w K mg base 1 "is_due" ["news", "version", "key"] d_is_due :=
  okF T.x_is_due sc_is_due (by decide) (fun f cdv A outer s H E hr => ss_cons (se_for PassesOwn.never rfl (ie_seq (ve_r (re_var 0))) (ge_name 3 sc_is_due.nd) (ss_cons (se_if (bt_w (bw_and (bt_cmp (op_eqD (u64 hr)) opd_eq (re_ix ix_seq opd_ix (re_var 3) (re_int)) (re_str)) (bw_and1 (bt_cmp (op_eqD (u64 hr)) opd_eq (re_slice (re_var 3) (pe_sm (re_int)) (pe_no)) (re_v (ve_tup (vs_cons (ve_r (re_var 1)) (vs_cons (ve_r (re_var 2)) (vs_nil))))))))) (ss_one (se_ret (ve_r (re_bl)))) (ss_nil)) (ss_one (se_if (bt_w (bw_and (bt_cmp (op_eqD (u64 hr)) opd_eq (re_ix ix_seq opd_ix (re_var 3) (re_int)) (re_str)) (bw_and (bt_cmp (op_eqD (u64 hr)) opd_eq (re_ix ix_seq opd_ix (re_var 3) (re_int)) (re_var 1)) (bw_and1 (bt_cmp (op_inA (u65 hr)) opd_in (re_var 2) (re_ix ix_seq opd_ix (re_var 3) (re_int))))))) (ss_one (se_ret (ve_r (re_bl)))) (ss_nil))))) (ss_one (se_ret (ve_r (re_bl)))))
theorem sc_marks_of : FnScope ["news", "key", "found", "piece", "mark"] ["news", "key"] (defScope (top 9)) := ⟨rfl, rfl, rfl, by decide +kernel, rfl, by decide +kernel, by decide +kernel⟩
theorem ok_marks_of (T : Tx K mg) : OkF P w K mg base 1 "marks_of" ["news", "key"] d_marks_of :=
  okF T.x_marks_of sc_marks_of (by decide) (fun f cdv A outer s H E hr => ss_cons (se_setO 2 sc_marks_of.nd (oe_disp1 (u9 hr) (ve_r (re_int)) (ve_r (re_int)))) (ss_cons (se_for PassesOwn.never rfl (ie_seq (ve_r (re_var 0))) (ge_name 3 sc_marks_of.nd) (ss_one (se_if (bt_w (bw_and (bt_cmp (op_eqD (u64 hr)) opd_eq (re_ix ix_seq opd_ix (re_var 3) (re_int)) (re_str)) (bw_and1 (bt_cmp (op_eqD (u64 hr)) opd_eq (re_ix ix_seq opd_ix (re_var 3) (re_int)) (re_var 1))))) (ss_one (se_setD (u9 hr) 2 (re_ix ix_seq opd_ix (re_var 3) (re_int)) (ve_r (re_ix ix_seq opd_ix (re_var 3) (re_int))))) (ss_nil)))) (ss_one (se_ret (ve_o (oe_lc (own := [("mark", 4)]) rfl sc_marks_of.nd (blkOk_by (by kernel_rfl)) (ie_seq (ve_o (oe_sortDI rfl 2 (by rfl) T.z_sorted (by decide +kernel)))) (fun _ _ _ _ _ => ge_name 4 sc_marks_of.nd) (fun _ _ _ _ _ => bts_nil) (fun _ _ _ _ _ => ve_tup (vs_cons (ve_r (re_var 4)) (vs_cons (ve_r (re_dIx (u9 hr) 2 (re_var 4) (by intro _ _; rfl))) (vs_nil))))))))))
theorem sc_cells : FnScope ["versions", "parts", "found", "part", "version"] ["versions", "parts"] (defScope (top 13)) := ⟨rfl, rfl, rfl, by decide +kernel, rfl, by decide +kernel, by decide +kernel⟩
theorem ok_cells (T : Tx K mg) : OkF P w K mg base 1 "cells" ["versions", "parts"] d_cells :=
  okF T.x_cells sc_cells (by decide) (fun f cdv A outer s H E hr => ss_cons (se_setO 2 sc_cells.nd (oe_lst (vs_nil))) (ss_cons (se_for PassesOwn.never rfl (ie_seq (ve_r (re_var 1))) (ge_name 3 sc_cells.nd) (ss_one (se_for PassesOwn.never rfl (ie_seq (ve_r (re_var 0))) (ge_name 4 sc_cells.nd) (ss_one (se_if (bt_chain op_leA opc_le op_leA opc_le (re_ix ix_seq opd_ix (re_var 3) (re_int)) (re_var 4) (re_ix ix_seq opd_ix (re_var 3) (re_int))) (ss_one (se_app 2 (ve_tup (vs_cons (ve_r (re_var 4)) (vs_cons (ve_r (re_ix ix_seq opd_ix (re_var 3) (re_int))) (vs_nil)))))) (ss_nil)))))) (ss_one (se_ret (ve_r (re_var 2))))))
theorem sc__law_draw : FnScope ["_law_script"] ["_law_script"] (defScope (top 17)) := ⟨rfl, rfl, rfl, by decide +kernel, rfl, by decide +kernel, by decide +kernel⟩
theorem ok__law_draw (T : Tx K mg) : OkF P w K mg base 1 "_law_draw" ["_law_script"] d__law_draw :=
  okF T.x__law_draw sc__law_draw (by decide) (fun f cdv A outer s H E hr => ss_one (se_retO (oe_lst (vs_cons (ve_o (oe_callR (pe_callTy call_list_of (by rfl) T.z_list (by decide +kernel) (rs_cons (re_var 0) (rs_nil))) rfl co_list)) (vs_cons (ve_r (re_int)) (vs_cons (ve_r (re_int)) (vs_cons (ve_r (re_int)) (vs_nil))))))))
theorem sc__law_next : FnScope ["_law_draw_here", "_law_many", "_law_found", "_law_cell_here"] ["_law_draw_here", "_law_many"] (defScope (top 18)) := ⟨rfl, rfl, rfl, by decide +kernel, rfl, by decide +kernel, by decide +kernel⟩
theorem ok__law_next (T : Tx K mg) : OkF P w K mg base 1 "_law_next" ["_law_draw_here", "_law_many"] d__law_next :=
  okF T.x__law_next sc__law_next (by decide) (fun f cdv A outer s H E hr => ss_cons (se_if (bt_cmp op_gtA opd_gt (re_ix ix_seq opd_ix (re_var 0) (re_int)) (re_int)) (ss_cons (se_set 2 sc__law_next.nd (ve_r (re_bin op_mod opd_mod (re_callR (pe_callTy call_int1 (by rfl) T.z_int (by decide +kernel) (rs_cons (re_ix ix_seq opd_ix (re_var 0) (re_int)) (rs_nil))) rfl cd_int1) (re_var 1)))) (ss_cons (se_setI 0 (re_int) (ve_r (re_bin op_fdiv opd_div (re_ix ix_seq opd_ix (re_var 0) (re_int)) (re_var 1)))) (ss_one (se_ret (ve_r (re_var 2)))))) (ss_nil)) (ss_cons (se_if (bt_cmp op_ltA opd_lt (re_ix ix_seq opd_ix (re_var 0) (re_int)) (re_callR (pe_callB call_lenA (by rfl) T.z_len (by decide +kernel) (rs_cons (re_ix ix_seq opd_ix (re_var 0) (re_int)) (rs_nil))) rfl cd_len)) (ss_cons (se_set 3 sc__law_next.nd (ve_r (re_callR (pe_callB call_abs (by rfl) T.z_abs (by decide +kernel) (rs_cons (re_ix ix_seq opd_ix (re_ix ix_seq opd_ix (re_var 0) (re_int)) (re_ix ix_seq opd_ix (re_var 0) (re_int))) (rs_nil))) rfl cd_abs))) (ss_cons (se_setI 0 (re_int) (ve_r (re_bin op_addA opd_add (re_ix ix_seq opd_ix (re_var 0) (re_int)) (re_int)))) (ss_cons (se_if (bt_cmp op_geA opd_ge (re_var 3) (re_bin op_pow opd_pow (re_int) (re_int))) (ss_cons (se_setI 0 (re_int) (ve_r (re_bin op_fdiv opd_div (re_var 3) (re_var 1)))) (ss_one (se_ret (ve_r (re_bin op_mod opd_mod (re_callR (pe_callTy call_int1 (by rfl) T.z_int (by decide +kernel) (rs_cons (re_var 3) (rs_nil))) rfl cd_int1) (re_var 1)))))) (ss_nil)) (ss_one (se_setI 0 (re_int) (ve_r (re_bin op_mod opd_mod (re_callR (pe_callTy call_int1 (by rfl) T.z_int (by decide +kernel) (rs_cons (re_bin op_addA opd_add (re_bin op_addA opd_add (re_bin (op_mul.or op_mulB) opd_mulA (re_ix ix_seq opd_ix (re_var 0) (re_int)) (re_int)) (re_var 3)) (re_int)) (rs_nil))) rfl cd_int1) (re_int)))))))) (ss_one (se_setI 0 (re_int) (ve_r (re_bin op_mod opd_mod (re_callR (pe_callTy call_int1 (by rfl) T.z_int (by decide +kernel) (rs_cons (re_bin op_addA opd_add (re_bin (op_mul.or op_mulB) opd_mulA (re_ix ix_seq opd_ix (re_var 0) (re_int)) (re_int)) (re_int)) (rs_nil))) rfl cd_int1) (re_int)))))) (ss_one (se_ret (ve_r (re_bin op_mod opd_mod (re_bin op_fdiv opd_div (re_callR (pe_callTy call_int1 (by rfl) T.z_int (by decide +kernel) (rs_cons (re_bin op_mod opd_mod (re_bin (op_mul.or op_mulB) opd_mulA (re_ix ix_seq opd_ix (re_var 0) (re_int)) (re_int)) (re_int)) (rs_nil))) rfl cd_int1) (re_int)) (re_var 1)))))))
theorem sc__law_values : FnScope ["_law_history_here", "_law_key", "_law_found", "_law_commit", "_law_name", "_law_value_here"] ["_law_history_here", "_law_key"] (defScope (top 22)) := ⟨rfl, rfl, rfl, by decide +kernel, rfl, by decide +kernel, by decide +kernel⟩
theorem ok__law_values (T : Tx K mg) : OkF P w K mg base 1 "_law_values" ["_law_history_here", "_law_key"] d__law_values :=
  okF T.x__law_values sc__law_values (by decide) (fun f cdv A outer s H E hr => ss_cons (se_set 2 sc__law_values.nd (ve_o (oe_lst (vs_nil)))) (ss_cons (se_for PassesOwn.never rfl (ie_seq (ve_r (re_var 0))) (ge_name 3 sc__law_values.nd) (ss_one (se_set 2 sc__law_values.nd (ve_r (re_bin op_addA opd_add (re_var 2) (re_v (ve_o (oe_lc (own := [("_law_name", 4), ("_law_value_here", 5)]) rfl sc__law_values.nd (blkOk_by (by kernel_rfl)) (ie_seq (ve_r (re_var 3))) (fun _ _ _ _ _ => ge_tup rfl (ges_cons (ge_name 4 sc__law_values.nd) (ges_cons (ge_name 5 sc__law_values.nd) (ges_nil)))) (fun _ _ _ _ _ => bts_one (bt_cmp (op_eqD (u64 hr)) opd_eq (re_var 4) (re_var 1))) (fun _ _ _ _ _ => ve_r (re_var 5)))))))))) (ss_one (se_ret (ve_r (re_var 2))))))
theorem sc__law_once : FnScope ["_law_news_here", "_law_told_here", "_law_found", "_law_piece", "_law_place"] ["_law_news_here"] (defScope (top 26)) := ⟨rfl, rfl, rfl, by decide +kernel, rfl, by decide +kernel, by decide +kernel⟩
theorem ok__law_once (T : Tx K mg) : OkF P w K mg base 1 "_law_once" ["_law_news_here"] d__law_once :=
  okF T.x__law_once sc__law_once (by decide) (fun f cdv A outer s H E hr => ss_cons (se_setO 1 sc__law_once.nd (oe_newD)) (ss_cons (se_setO 2 sc__law_once.nd (oe_lst (vs_nil))) (ss_cons (se_for PassesOwn.never rfl (ie_seq (ve_r (re_var 0))) (ge_name 3 sc__law_once.nd) (ss_cons (se_set 4 sc__law_once.nd (ve_r (re_slice (re_var 3) (pe_no) (pe_sm (re_int))))) (ss_one (se_if (bt_w (bw_or (bt_cmp (op_neD (u64 hr)) opd_ne (re_ix ix_seq opd_ix (re_var 3) (re_int)) (re_str)) (bw_or1 (bt_cmp (op_eqD (u64 hr)) opd_eq (re_dG2 (u9 hr) 1 (re_var 4) (re_var 3) ⟨rfl, rfl, rfl, rfl⟩) (re_var 3))))) (ss_cons (se_setD (u9 hr) 1 (re_var 4) (ve_r (re_var 3))) (ss_one (se_app 2 (ve_r (re_var 3))))) (ss_nil))))) (ss_one (se_ret (ve_r (re_var 2)))))))
theorem sc__law_head : FnScope ["_law_news_here", "_law_found", "_law_piece"] ["_law_news_here"] (defScope (top 29)) := ⟨rfl, rfl, rfl, by decide +kernel, rfl, by decide +kernel, by decide +kernel⟩
theorem ok__law_head (T : Tx K mg) : OkF P w K mg base 1 "_law_head" ["_law_news_here"] d__law_head :=
  okF T.x__law_head sc__law_head (by decide) (fun f cdv A outer s H E hr => ss_cons (se_set 1 sc__law_head.nd (ve_r (re_int))) (ss_cons (se_for PassesOwn.never rfl (ie_seq (ve_r (re_var 0))) (ge_name 2 sc__law_head.nd) (ss_one (se_if (bt_cmp (op_neD (u64 hr)) opd_ne (re_ix ix_seq opd_ix (re_var 2) (re_int)) (re_str)) (ss_one (se_set 1 sc__law_head.nd (ve_r (re_callR (pe_callB (call_maxA rfl) (by rfl) T.z_max (by decide +kernel) (rs_cons (re_var 1) (rs_cons (re_v (ve_if (bt_cmp (op_eqD (u64 hr)) opd_eq (re_ix ix_seq opd_ix (re_var 2) (re_int)) (re_str)) (ve_r (re_ix ix_seq opd_ix (re_var 2) (re_int))) (ve_r (re_ix ix_seq opd_ix (re_var 2) (re_int))))) (rs_nil)))) rfl cd_max)))) (ss_nil)))) (ss_one (se_ret (ve_r (re_var 1))))))
theorem sc__law_cell : FnScope ["_law_news_here", "_law_version", "_law_key", "_law_found", "_law_piece"] ["_law_news_here", "_law_version", "_law_key"] (defScope (top 31)) := ⟨rfl, rfl, rfl, by decide +kernel, rfl, by decide +kernel, by decide +kernel⟩
theorem ok__law_cell (T : Tx K mg) : OkF P w K mg base 1 "_law_cell" ["_law_news_here", "_law_version", "_law_key"] d__law_cell :=
  okF T.x__law_cell sc__law_cell (by decide) (fun f cdv A outer s H E hr => ss_cons (se_set 3 sc__law_cell.nd (ve_r (re_int))) (ss_cons (se_for PassesOwn.never rfl (ie_seq (ve_r (re_var 0))) (ge_name 4 sc__law_cell.nd) (ss_cons (se_if (bt_w (bw_and (bt_cmp (op_inA (u65 hr)) opd_in (re_ix ix_seq opd_ix (re_var 4) (re_int)) (re_v (ve_tup (vs_cons (ve_r (re_str)) (vs_cons (ve_r (re_str)) (vs_nil)))))) (bw_and (bt_cmp (op_eqD (u64 hr)) opd_eq (re_ix ix_seq opd_ix (re_var 4) (re_int)) (re_var 1)) (bw_and1 (bt_cmp (op_notInA (u65 hr)) opd_notIn (re_var 2) (re_ix ix_seq opd_ix (re_var 4) (re_int))))))) (ss_one (se_ret (ve_r (re_int)))) (ss_nil)) (ss_one (se_if (bt_w (bw_or (bt_w (bw_and (bt_cmp (op_eqD (u64 hr)) opd_eq (re_ix ix_seq opd_ix (re_var 4) (re_int)) (re_str)) (bw_and1 (bt_cmp (op_eqD (u64 hr)) opd_eq (re_ix ix_seq opd_ix (re_var 4) (re_int)) (re_var 1))))) (bw_or1 (bt_cmp (op_eqD (u64 hr)) opd_eq (re_var 4) (re_v (ve_tup (vs_cons (ve_r (re_str)) (vs_cons (ve_r (re_var 1)) (vs_cons (ve_r (re_var 2)) (vs_nil)))))))))) (ss_one (se_set 3 sc__law_cell.nd (ve_r (re_int)))) (ss_nil))))) (ss_one (se_ret (ve_r (re_var 3))))))
theorem sc__law_bounds : FnScope ["_law_shelf_here", "_law_news_here", "_law_version", "_law_piece"] ["_law_shelf_here", "_law_news_here", "_law_version"] (defScope (top 32)) := ⟨rfl, rfl, rfl, by decide +kernel, rfl, by decide +kernel, by decide +kernel⟩
theorem ok__law_bounds (T : Tx K mg) : OkF P w K mg base 1 "_law_bounds" ["_law_shelf_here", "_law_news_here", "_law_version"] d__law_bounds :=
  okF T.x__law_bounds sc__law_bounds (by decide) (fun f cdv A outer s H E hr => ss_cons (se_for PassesOwn.never rfl (ie_seq (ve_r (re_var 1))) (ge_name 3 sc__law_bounds.nd) (ss_cons (se_if (bt_w (bw_and (bt_cmp (op_eqD (u64 hr)) opd_eq (re_ix ix_seq opd_ix (re_var 3) (re_int)) (re_str)) (bw_and1 (bt_cmp (op_eqD (u64 hr)) opd_eq (re_ix ix_seq opd_ix (re_var 3) (re_int)) (re_var 2))))) (ss_one (se_ret (ve_tup (vs_cons (ve_r (re_ix ix_seq opd_ix (re_var 3) (re_int))) (vs_cons (ve_r (re_ix ix_seq opd_ix (re_var 3) (re_int))) (vs_nil)))))) (ss_nil)) (ss_one (se_if (bt_w (bw_and (bt_cmp (op_eqD (u64 hr)) opd_eq (re_ix ix_seq opd_ix (re_var 3) (re_int)) (re_str)) (bw_and1 (bt_cmp (op_eqD (u64 hr)) opd_eq (re_ix ix_seq opd_ix (re_var 3) (re_int)) (re_var 2))))) (ss_one (se_ret (ve_tup (vs_cons (ve_r (re_callR (pe_callB call_lenA (by rfl) T.z_len (by decide +kernel) (rs_cons (re_ix ix_seq opd_ix (re_var 3) (re_int)) (rs_nil))) rfl cd_len)) (vs_cons (ve_r (re_callR (pe_callB call_lenA (by rfl) T.z_len (by decide +kernel) (rs_cons (re_ix ix_seq opd_ix (re_var 3) (re_int)) (rs_nil))) rfl cd_len)) (vs_nil)))))) (ss_nil))))) (ss_one (se_ret (ve_tup (vs_cons (ve_r (re_int)) (vs_cons (ve_r (re_callR (pe_callB call_lenA (by rfl) T.z_len (by decide +kernel) (rs_cons (re_var 0) (rs_nil))) rfl cd_len)) (vs_nil)))))))
theorem sc_head_of : FnScope ["news", "piece"] ["news"] (defScope (top 2)) := ⟨rfl, rfl, rfl, by decide +kernel, rfl, by decide +kernel, by decide +kernel⟩
theorem ok_head_of (T : Tx K mg) : OkF P w K mg base 2 "head_of" ["news"] d_head_of :=
  okF T.x_head_of sc_head_of (by decide) (fun f cdv A outer s H E hr => ss_one (se_ret (ve_r (re_callR (pe_callB (call_maxA rfl) (by rfl) T.z_max (by decide +kernel) (rs_cons (re_bin op_addA opd_add (re_v (ve_o (oe_lst (vs_cons (ve_r (re_int)) (vs_nil))))) (re_v (ve_o (oe_lc (own := [("piece", 1)]) rfl sc_head_of.nd (blkOk_by (by kernel_rfl)) (ie_seq (ve_r (re_var 0))) (fun _ _ _ _ _ => ge_name 1 sc_head_of.nd) (fun _ _ _ _ _ => bts_nil) (fun _ _ _ _ _ => ve_calN (ok_version_of T) (hr.mono (by decide)) fnD_len (ae_val (ve_r (re_var 1)) (ae_nil))))))) (rs_nil))) rfl cd_max))))
theorem sc_cell : FnScope ["news", "version", "key"] ["news", "version", "key"] (defScope (top 8)) := ⟨rfl, rfl, rfl, by decide +kernel, rfl, by decide +kernel, by decide +kernel⟩
theorem ok_cell (T : Tx K mg) : OkF P w K mg base 2 "cell" ["news", "version", "key"] d_cell :=
  okF T.x_cell sc_cell (by decide) (fun f cdv A outer s H E hr => ss_cons (se_if (bt_tru (re_v (ve_calN (ok_is_shut T) (hr.mono (by decide)) fnD_len (ae_val (ve_r (re_var 0)) (ae_val (ve_r (re_var 1)) (ae_val (ve_r (re_var 2)) (ae_nil))))))) (ss_one (se_ret (ve_r (re_str)))) (ss_nil)) (ss_one (se_ret (ve_if (bt_tru (re_v (ve_calN (ok_is_due T) (hr.mono (by decide)) fnD_len (ae_val (ve_r (re_var 0)) (ae_val (ve_r (re_var 1)) (ae_val (ve_r (re_var 2)) (ae_nil))))))) (ve_r (re_str)) (ve_r (re_str))))))
theorem sc__law_shelf : FnScope ["_law_draw_here", "_law_most"] ["_law_draw_here", "_law_most"] (defScope (top 20)) := ⟨rfl, rfl, rfl, by decide +kernel, rfl, by decide +kernel, by decide +kernel⟩
theorem ok__law_shelf (T : Tx K mg) : OkF P w K mg base 2 "_law_shelf" ["_law_draw_here", "_law_most"] d__law_shelf :=
  okF T.x__law_shelf sc__law_shelf (by decide) (fun f cdv A outer s H E hr => ss_one (se_ret (ve_r (re_ix ix_seq opd_ix (re_v (ve_o (oe_lst (vs_cons (ve_tup (vs_cons (ve_r (re_str)) (vs_nil))) (vs_cons (ve_tup (vs_cons (ve_r (re_str)) (vs_cons (ve_r (re_str)) (vs_nil)))) (vs_cons (ve_tup (vs_cons (ve_r (re_str)) (vs_cons (ve_r (re_str)) (vs_cons (ve_r (re_str)) (vs_nil))))) (vs_cons (ve_tup (vs_cons (ve_r (re_str)) (vs_cons (ve_r (re_str)) (vs_cons (ve_r (re_str)) (vs_nil))))) (vs_cons (ve_tup (vs_cons (ve_r (re_str)) (vs_cons (ve_r (re_str)) (vs_nil)))) (vs_nil))))))))) (re_v (ve_calN (ok__law_next T) (hr.mono (by decide)) fnD_len (ae_io 0 (ae_val (ve_r (re_var 1)) (ae_nil)))))))))
theorem sc__law_history : FnScope ["_law_draw_here", "_law_shelf_here", "_law_versions", "_law_found", "_law_version", "_law_keys", "_law_key"] ["_law_draw_here", "_law_shelf_here", "_law_versions"] (defScope (top 21)) := ⟨rfl, rfl, rfl, by decide +kernel, rfl, by decide +kernel, by decide +kernel⟩
theorem ok__law_history (T : Tx K mg) : OkF P w K mg base 2 "_law_history" ["_law_draw_here", "_law_shelf_here", "_law_versions"] d__law_history :=
  okF T.x__law_history sc__law_history (by decide) (fun f cdv A outer s H E hr => ss_cons (se_setO 3 sc__law_history.nd (oe_lst (vs_nil))) (ss_cons (se_for PassesOwn.never rfl (ie_range1 (by rfl) T.z_range (rs_cons (re_var 2) (rs_nil))) (ge_name 4 sc__law_history.nd) (ss_cons (se_setLc 5 (own := [("_law_key", 6)]) rfl sc__law_history.nd rfl rfl (sw_true rfl rfl rfl (by decide +kernel)) (blkOk_by (by kernel_rfl)) (ie_seq (ve_r (re_var 1))) (fun _ _ _ _ _ => ge_name 6 sc__law_history.nd) (fun _ _ _ _ _ => bts_one (bt_cmp (op_eqD (u64 hr)) opd_eq (re_v (ve_calN (ok__law_next T) (hr.mono (by decide)) fnD_len (ae_io 0 (ae_val (ve_r (re_int)) (ae_nil))))) (re_int))) (fun _ _ _ _ _ => ve_r (re_var 6))) (ss_cons (se_if (bt_not (bt_tru (re_var 5))) (ss_one (se_set 5 sc__law_history.nd (ve_o (oe_lst (vs_cons (ve_r (re_ix ix_seq opd_ix (re_var 1) (re_v (ve_calN (ok__law_next T) (hr.mono (by decide)) fnD_len (ae_io 0 (ae_val (ve_r (re_callR (pe_callB call_lenA (by rfl) T.z_len (by decide +kernel) (rs_cons (re_var 1) (rs_nil))) rfl cd_len)) (ae_nil))))))) (vs_nil)))))) (ss_nil)) (ss_one (se_app 3 (ve_r (re_callR (pe_callTy call_tuple_of (by rfl) T.z_tuple (by decide +kernel) (rs_cons (re_v (ve_o (oe_lc (own := [("_law_key", 6)]) rfl sc__law_history.nd (blkOk_by (by kernel_rfl)) (ie_seq (ve_r (re_var 5))) (fun _ _ _ _ _ => ge_name 6 sc__law_history.nd) (fun _ _ _ _ _ => bts_nil) (fun _ _ _ _ _ => ve_tup (vs_cons (ve_r (re_var 6)) (vs_cons (ve_r (re_bin op_sub opd_sub (re_v (ve_calN (ok__law_next T) (hr.mono (by decide)) fnD_len (ae_io 0 (ae_val (ve_r (re_int)) (ae_nil))))) (re_int))) (vs_nil))))))) (rs_nil))) rfl cd_tuple))))))) (ss_one (se_ret (ve_r (re_var 3))))))
theorem sc__law_times : FnScope ["_law_history_here", "_law_key", "_law_version"] ["_law_history_here", "_law_key", "_law_version"] (defScope (top 23)) := ⟨rfl, rfl, rfl, by decide +kernel, rfl, by decide +kernel, by decide +kernel⟩
theorem ok__law_times (T : Tx K mg) : OkF P w K mg base 2 "_law_times" ["_law_history_here", "_law_key", "_law_version"] d__law_times :=
  okF T.x__law_times sc__law_times (by decide) (fun f cdv A outer s H E hr => ss_one (se_ret (ve_r (re_callR (pe_callB call_lenA (by rfl) T.z_len (by decide +kernel) (rs_cons (re_v (ve_calN (ok__law_values T) (hr.mono (by decide)) fnD_len (ae_val (ve_r (re_slice (re_var 0) (pe_no) (pe_sm (re_var 2)))) (ae_val (ve_r (re_var 1)) (ae_nil))))) (rs_nil))) rfl cd_len))))
theorem sc__law_wild : FnScope ["_law_draw_here", "_law_shelf_here", "_law_versions", "_law_version", "_law_key", "_law_keys", "_law_name", "_law_form"] ["_law_draw_here", "_law_shelf_here", "_law_versions"] (defScope (top 28)) := ⟨rfl, rfl, rfl, by decide +kernel, rfl, by decide +kernel, by decide +kernel⟩
theorem ok__law_wild (T : Tx K mg) : OkF P w K mg base 2 "_law_wild" ["_law_draw_here", "_law_shelf_here", "_law_versions"] d__law_wild :=
  okF T.x__law_wild sc__law_wild (by decide) (fun f cdv A outer s H E hr => ss_cons (se_set 3 sc__law_wild.nd (ve_r (re_bin op_addA opd_add (re_int) (re_v (ve_calN (ok__law_next T) (hr.mono (by decide)) fnD_len (ae_io 0 (ae_val (ve_r (re_var 2)) (ae_nil)))))))) (ss_cons (se_set 4 sc__law_wild.nd (ve_r (re_ix ix_seq opd_ix (re_var 1) (re_v (ve_calN (ok__law_next T) (hr.mono (by decide)) fnD_len (ae_io 0 (ae_val (ve_r (re_callR (pe_callB call_lenA (by rfl) T.z_len (by decide +kernel) (rs_cons (re_var 1) (rs_nil))) rfl cd_len)) (ae_nil)))))))) (ss_cons (se_set 5 sc__law_wild.nd (ve_r (re_callR (pe_callTy call_tuple_of (by rfl) T.z_tuple (by decide +kernel) (rs_cons (re_v (ve_o (oe_lc (own := [("_law_name", 6)]) rfl sc__law_wild.nd (blkOk_by (by kernel_rfl)) (ie_seq (ve_r (re_var 1))) (fun _ _ _ _ _ => ge_name 6 sc__law_wild.nd) (fun _ _ _ _ _ => bts_one (bt_w (bw_or (bt_cmp (op_eqD (u64 hr)) opd_eq (re_var 6) (re_var 4)) (bw_or1 (bt_cmp (op_eqD (u64 hr)) opd_eq (re_v (ve_calN (ok__law_next T) (hr.mono (by decide)) fnD_len (ae_io 0 (ae_val (ve_r (re_int)) (ae_nil))))) (re_int)))))) (fun _ _ _ _ _ => ve_r (re_var 6))))) (rs_nil))) rfl cd_tuple))) (ss_cons (se_set 7 sc__law_wild.nd (ve_calN (ok__law_next T) (hr.mono (by decide)) fnD_len (ae_io 0 (ae_val (ve_r (re_int)) (ae_nil))))) (ss_cons (se_if (bt_cmp op_ltA opd_lt (re_var 7) (re_int)) (ss_one (se_ret (ve_tup (vs_cons (ve_r (re_ix ix_seq opd_ix (re_v (ve_o (oe_lst (vs_cons (ve_r (re_str)) (vs_cons (ve_r (re_str)) (vs_cons (ve_r (re_str)) (vs_nil))))))) (re_var 7))) (vs_cons (ve_r (re_var 3)) (vs_cons (ve_r (re_var 5)) (vs_nil))))))) (ss_nil)) (ss_cons (se_if (bt_cmp (op_eqD (u64 hr)) opd_eq (re_var 7) (re_int)) (ss_one (se_ret (ve_tup (vs_cons (ve_r (re_str)) (vs_cons (ve_r (re_var 3)) (vs_cons (ve_r (re_bin op_addA opd_add (re_int) (re_v (ve_calN (ok__law_next T) (hr.mono (by decide)) fnD_len (ae_io 0 (ae_val (ve_r (re_bin op_addA opd_add (re_callR (pe_callB call_lenA (by rfl) T.z_len (by decide +kernel) (rs_cons (re_var 1) (rs_nil))) rfl cd_len) (re_int))) (ae_nil))))))) (vs_nil))))))) (ss_nil)) (ss_cons (se_if (bt_cmp (op_eqD (u64 hr)) opd_eq (re_var 7) (re_int)) (ss_one (se_ret (ve_tup (vs_cons (ve_r (re_str)) (vs_cons (ve_r (re_var 3)) (vs_cons (ve_r (re_var 4)) (vs_nil))))))) (ss_nil)) (ss_cons (se_if (bt_cmp op_ltA opd_lt (re_var 7) (re_int)) (ss_one (se_ret (ve_tup (vs_cons (ve_r (re_str)) (vs_cons (ve_r (re_var 4)) (vs_cons (ve_r (re_var 3)) (vs_cons (ve_calN (ok__law_next T) (hr.mono (by decide)) fnD_len (ae_io 0 (ae_val (ve_r (re_bin op_addA opd_add (re_var 3) (re_int))) (ae_nil)))) (vs_nil)))))))) (ss_nil)) (ss_one (se_ret (ve_tup (vs_cons (ve_r (re_str)) (vs_cons (ve_r (re_var 4)) (vs_cons (ve_r (re_bin op_addA opd_add (re_int) (re_v (ve_calN (ok__law_next T) (hr.mono (by decide)) fnD_len (ae_io 0 (ae_val (ve_r (re_int)) (ae_nil))))))) (vs_cons (ve_calN (ok__law_next T) (hr.mono (by decide)) fnD_len (ae_io 0 (ae_val (ve_r (re_int)) (ae_nil)))) (vs_nil))))))))))))))))
theorem sc__law_stretches : FnScope ["_law_shelf_here", "_law_news_here", "_law_found", "_law_key", "_law_marks", "_law_piece", "_law_before", "_law_mark"] ["_law_shelf_here", "_law_news_here"] (defScope (top 30)) := ⟨rfl, rfl, rfl, by decide +kernel, rfl, by decide +kernel, by decide +kernel⟩
theorem ok__law_stretches (T : Tx K mg) : OkF P w K mg base 2 "_law_stretches" ["_law_shelf_here", "_law_news_here"] d__law_stretches :=
  okF T.x__law_stretches sc__law_stretches (by decide) (fun f cdv A outer s H E hr => ss_cons (se_setO 2 sc__law_stretches.nd (oe_lst (vs_nil))) (ss_cons (se_for PassesOwn.never rfl (ie_seq (ve_r (re_var 0))) (ge_name 3 sc__law_stretches.nd) (ss_cons (se_setO 4 sc__law_stretches.nd (oe_disp1 (u9 hr) (ve_r (re_int)) (ve_r (re_int)))) (ss_cons (se_for PassesOwn.never rfl (ie_seq (ve_r (re_var 1))) (ge_name 5 sc__law_stretches.nd) (ss_one (se_if (bt_w (bw_and (bt_cmp (op_eqD (u64 hr)) opd_eq (re_ix ix_seq opd_ix (re_var 5) (re_int)) (re_str)) (bw_and1 (bt_cmp (op_eqD (u64 hr)) opd_eq (re_ix ix_seq opd_ix (re_var 5) (re_int)) (re_var 3))))) (ss_one (se_setD (u9 hr) 4 (re_ix ix_seq opd_ix (re_var 5) (re_int)) (ve_r (re_ix ix_seq opd_ix (re_var 5) (re_int))))) (ss_nil)))) (ss_cons (se_set 6 sc__law_stretches.nd (ve_r (re_int))) (ss_cons (se_for PassesOwn.never rfl (ie_seq (ve_o (oe_callR (pe_callB cr_sortedI (by rfl) T.z_sorted (by decide +kernel) (rs_cons (re_v (ve_o (oe_keysD rfl 4 (by rfl) T.z_list (by decide +kernel)))) (rs_nil))) rfl co_sorted))) (ge_name 7 sc__law_stretches.nd) (ss_one (se_if (bt_cmp op_gtA opd_gt (re_var 7) (re_int)) (ss_cons (se_app 2 (ve_tup (vs_cons (ve_r (re_var 3)) (vs_cons (ve_r (re_bin op_addA opd_add (re_var 6) (re_int))) (vs_cons (ve_r (re_var 7)) (vs_cons (ve_r (re_bin op_sub opd_sub (re_dIx (u9 hr) 4 (re_var 7) (by intro _ _; rfl)) (re_dIx (u9 hr) 4 (re_var 6) (by intro _ _; rfl)))) (vs_cons (ve_r (re_bin op_sub opd_sub (re_dIx (u9 hr) 4 (re_var 7) (by intro _ _; rfl)) (re_dIx (u9 hr) 4 (re_var 6) (by intro _ _; rfl)))) (vs_nil)))))))) (ss_one (se_set 6 sc__law_stretches.nd (ve_r (re_var 7))))) (ss_nil)))) (ss_one (se_if (bt_cmp op_ltA opd_lt (re_var 6) (re_v (ve_calN (ok__law_head T) (hr.mono (by decide)) fnD_len (ae_val (ve_r (re_var 1)) (ae_nil))))) (ss_one (se_app 2 (ve_tup (vs_cons (ve_r (re_var 3)) (vs_cons (ve_r (re_bin op_addA opd_add (re_var 6) (re_int))) (vs_cons (ve_calN (ok__law_head T) (hr.mono (by decide)) fnD_len (ae_val (ve_r (re_var 1)) (ae_nil))) (vs_cons (ve_r (re_int)) (vs_cons (ve_r (re_bin op_sub opd_sub (re_v (ve_calN (ok__law_head T) (hr.mono (by decide)) fnD_len (ae_val (ve_r (re_var 1)) (ae_nil)))) (re_var 6))) (vs_nil))))))))) (ss_nil)))))))) (ss_one (se_ret (ve_r (re_var 2))))))
theorem sc__law_clash : FnScope ["_law_shelf_here", "_law_news_here", "_law_told_here", "_law_piece", "_law_named", "_law_key", "_law_number", "_law_marks", "_law_numbers", "_law_mark", "_law_version", "_law_due", "_law_shut"] ["_law_shelf_here", "_law_news_here"] (defScope (top 34)) := ⟨rfl, rfl, rfl, by decide +kernel, rfl, by decide +kernel, by decide +kernel⟩
theorem ok__law_clash (T : Tx K mg) : OkF P w K mg base 2 "_law_clash" ["_law_shelf_here", "_law_news_here"] d__law_clash :=
  okF T.x__law_clash sc__law_clash (by decide) (fun f cdv A outer s H E hr => ss_cons (se_setO 2 sc__law_clash.nd (oe_newD)) (ss_cons (se_for PassesOwn.never rfl (ie_seq (ve_r (re_var 1))) (ge_name 3 sc__law_clash.nd) (ss_cons (se_set 4 sc__law_clash.nd (ve_if (bt_cmp (op_inA (u65 hr)) opd_in (re_ix ix_seq opd_ix (re_var 3) (re_int)) (re_v (ve_tup (vs_cons (ve_r (re_str)) (vs_cons (ve_r (re_str)) (vs_nil)))))) (ve_r (re_ix ix_seq opd_ix (re_var 3) (re_int))) (ve_o (oe_if (bt_cmp (op_eqD (u64 hr)) opd_eq (re_ix ix_seq opd_ix (re_var 3) (re_int)) (re_str)) (oe_lst (vs_cons (ve_r (re_ix ix_seq opd_ix (re_var 3) (re_int))) (vs_nil))) (oe_lst (vs_nil)))))) (ss_cons (se_set 4 sc__law_clash.nd (ve_if (bt_cmp (op_eqD (u64 hr)) opd_eq (re_ix ix_seq opd_ix (re_var 3) (re_int)) (re_str)) (ve_o (oe_lst (vs_cons (ve_r (re_ix ix_seq opd_ix (re_var 3) (re_int))) (vs_nil)))) (ve_r (re_var 4)))) (ss_cons (se_if (bt_not (bt_tru (re_callR (pe_callB (cr_all rfl) (by rfl) T.z_all (by decide +kernel) (rs_cons (re_v (ve_o (oe_lc (own := [("_law_key", 5)]) rfl sc__law_clash.nd (blkOk_by (by kernel_rfl)) (ie_seq (ve_r (re_var 4))) (fun _ _ _ _ _ => ge_name 5 sc__law_clash.nd) (fun _ _ _ _ _ => bts_nil) (fun _ _ _ _ _ => ve_r (re_cmp (op_inA (u65 hr)) opd_in (re_var 5) (re_var 0)))))) (rs_nil))) rfl cd_all))) (ss_one (se_ret (ve_r (re_bl)))) (ss_nil)) (ss_cons (se_if (bt_cmp (op_inA (u65 hr)) opd_in (re_ix ix_seq opd_ix (re_var 3) (re_int)) (re_v (ve_tup (vs_cons (ve_r (re_str)) (vs_cons (ve_r (re_str)) (vs_nil)))))) (ss_cons (se_set 6 sc__law_clash.nd (ve_if (bt_cmp (op_eqD (u64 hr)) opd_eq (re_ix ix_seq opd_ix (re_var 3) (re_int)) (re_str)) (ve_r (re_ix ix_seq opd_ix (re_var 3) (re_int))) (ve_r (re_callR (pe_callB call_lenA (by rfl) T.z_len (by decide +kernel) (rs_cons (re_ix ix_seq opd_ix (re_var 3) (re_int)) (rs_nil))) rfl cd_len)))) (ss_one (se_if (bt_cmp (op_neD (u64 hr)) opd_ne (re_dSd (u9 hr) 2 (re_ix ix_seq opd_ix (re_var 3) (re_int)) (ve_r (re_var 6)) ⟨rfl, rfl, rfl, rfl⟩) (re_var 6)) (ss_one (se_ret (ve_r (re_bl)))) (ss_nil)))) (ss_nil)) (ss_one (se_if (bt_w (bw_and (bt_cmp (op_eqD (u64 hr)) opd_eq (re_ix ix_seq opd_ix (re_var 3) (re_int)) (re_str)) (bw_and1 (bt_cmp (op_neD (u64 hr)) opd_ne (re_dSd (u9 hr) 2 (re_slice (re_var 3) (pe_sm (re_int)) (pe_sm (re_int))) (ve_r (re_ix ix_seq opd_ix (re_var 3) (re_int))) ⟨rfl, rfl, rfl, rfl⟩) (re_ix ix_seq opd_ix (re_var 3) (re_int)))))) (ss_one (se_ret (ve_r (re_bl)))) (ss_nil)))))))) (ss_cons (se_for PassesOwn.never rfl (ie_seq (ve_r (re_var 0))) (ge_name 5 sc__law_clash.nd) (ss_cons (se_setO 7 sc__law_clash.nd (oe_disp1 (u9 hr) (ve_r (re_int)) (ve_r (re_int)))) (ss_cons (se_for PassesOwn.never rfl (ie_seq (ve_r (re_var 1))) (ge_name 3 sc__law_clash.nd) (ss_one (se_if (bt_w (bw_and (bt_cmp (op_eqD (u64 hr)) opd_eq (re_ix ix_seq opd_ix (re_var 3) (re_int)) (re_str)) (bw_and (bt_cmp (op_eqD (u64 hr)) opd_eq (re_ix ix_seq opd_ix (re_var 3) (re_int)) (re_var 5)) (bw_and1 (bt_cmp (op_neD (u64 hr)) opd_ne (re_dSd (u9 hr) 7 (re_ix ix_seq opd_ix (re_var 3) (re_int)) (ve_r (re_ix ix_seq opd_ix (re_var 3) (re_int))) ⟨rfl, rfl, rfl, rfl⟩) (re_ix ix_seq opd_ix (re_var 3) (re_int))))))) (ss_one (se_ret (ve_r (re_bl)))) (ss_nil)))) (ss_cons (se_setLc 8 (own := [("_law_mark", 9)]) rfl sc__law_clash.nd rfl rfl (sw_true rfl rfl rfl (by decide +kernel)) (blkOk_by (by kernel_rfl)) (ie_seq (ve_o (oe_callR (pe_callB cr_sortedI (by rfl) T.z_sorted (by decide +kernel) (rs_cons (re_v (ve_o (oe_keysD rfl 7 (by rfl) T.z_list (by decide +kernel)))) (rs_nil))) rfl co_sorted))) (fun _ _ _ _ _ => ge_name 9 sc__law_clash.nd) (fun _ _ _ _ _ => bts_nil) (fun _ _ _ _ _ => ve_r (re_dIx (u9 hr) 7 (re_var 9) (by intro _ _; rfl)))) (ss_cons (se_if (bt_cmp (op_neD (u64 hr)) opd_ne (re_var 8) (re_v (ve_o (oe_callR (pe_callB cr_sortedI (by rfl) T.z_sorted (by decide +kernel) (rs_cons (re_var 8) (rs_nil))) rfl co_sorted)))) (ss_one (se_ret (ve_r (re_bl)))) (ss_nil)) (ss_one (se_for PassesOwn.never rfl (ie_range2 (by rfl) T.z_range (rs_cons (re_int) (rs_cons (re_bin op_addA opd_add (re_v (ve_calN (ok__law_head T) (hr.mono (by decide)) fnD_len (ae_val (ve_r (re_var 1)) (ae_nil)))) (re_int)) (rs_nil)))) (ge_name 10 sc__law_clash.nd) (ss_cons (se_setLc 11 (own := [("_law_piece", 3)]) rfl sc__law_clash.nd rfl rfl (sw_true rfl rfl rfl (by decide +kernel)) (blkOk_by (by kernel_rfl)) (ie_seq (ve_r (re_var 1))) (fun _ _ _ _ _ => ge_name 3 sc__law_clash.nd) (fun _ _ _ _ _ => bts_one (bt_cmp (op_eqD (u64 hr)) opd_eq (re_var 3) (re_v (ve_tup (vs_cons (ve_r (re_str)) (vs_cons (ve_r (re_var 10)) (vs_cons (ve_r (re_var 5)) (vs_nil)))))))) (fun _ _ _ _ _ => ve_r (re_int))) (ss_cons (se_set 11 sc__law_clash.nd (ve_r (re_bin op_addA opd_add (re_var 11) (re_v (ve_o (oe_lc (own := [("_law_piece", 3)]) rfl sc__law_clash.nd (blkOk_by (by kernel_rfl)) (ie_seq (ve_r (re_var 1))) (fun _ _ _ _ _ => ge_name 3 sc__law_clash.nd) (fun _ _ _ _ _ => bts_one (bt_w (bw_and (bt_cmp (op_eqD (u64 hr)) opd_eq (re_slice (re_var 3) (pe_no) (pe_sm (re_int))) (re_v (ve_tup (vs_cons (ve_r (re_str)) (vs_cons (ve_r (re_var 10)) (vs_nil)))))) (bw_and1 (bt_cmp (op_inA (u65 hr)) opd_in (re_var 5) (re_ix ix_seq opd_ix (re_var 3) (re_int))))))) (fun _ _ _ _ _ => ve_r (re_int)))))))) (ss_cons (se_setLc 12 (own := [("_law_piece", 3)]) rfl sc__law_clash.nd rfl rfl (sw_true rfl rfl rfl (by decide +kernel)) (blkOk_by (by kernel_rfl)) (ie_seq (ve_r (re_var 1))) (fun _ _ _ _ _ => ge_name 3 sc__law_clash.nd) (fun _ _ _ _ _ => bts_one (bt_w (bw_and (bt_cmp (op_inA (u65 hr)) opd_in (re_ix ix_seq opd_ix (re_var 3) (re_int)) (re_v (ve_tup (vs_cons (ve_r (re_str)) (vs_cons (ve_r (re_str)) (vs_nil)))))) (bw_and (bt_cmp (op_eqD (u64 hr)) opd_eq (re_ix ix_seq opd_ix (re_var 3) (re_int)) (re_var 10)) (bw_and1 (bt_cmp (op_notInA (u65 hr)) opd_notIn (re_var 5) (re_ix ix_seq opd_ix (re_var 3) (re_int)))))))) (fun _ _ _ _ _ => ve_r (re_int))) (ss_one (se_if (bt_w (bw_and (bt_tru (re_var 11)) (bw_and1 (bt_tru (re_var 12))))) (ss_one (se_ret (ve_r (re_bl)))) (ss_nil))))))))))))) (ss_one (se_ret (ve_r (re_bl)))))))
theorem sc_bounds : FnScope ["shelf", "news", "found", "version", "numbers"] ["shelf", "news"] (defScope (top 5)) := ⟨rfl, rfl, rfl, by decide +kernel, rfl, by decide +kernel, by decide +kernel⟩
theorem ok_bounds (T : Tx K mg) : OkF P w K mg base 3 "bounds" ["shelf", "news"] d_bounds :=
  okF T.x_bounds sc_bounds (by decide) (fun f cdv A outer s H E hr => ss_cons (se_setO 2 sc_bounds.nd (oe_lst (vs_nil))) (ss_cons (se_for PassesOwn.never rfl (ie_range2 (by rfl) T.z_range (rs_cons (re_int) (rs_cons (re_bin op_addA opd_add (re_v (ve_calN (ok_head_of T) (hr.mono (by decide)) fnD_len (ae_val (ve_r (re_var 1)) (ae_nil)))) (re_int)) (rs_nil)))) (ge_name 3 sc_bounds.nd) (ss_cons (se_set 4 sc_bounds.nd (ve_calN (ok_numbers_at T) (hr.mono (by decide)) fnD_len (ae_val (ve_r (re_var 1)) (ae_val (ve_r (re_var 3)) (ae_nil))))) (ss_one (se_app 2 (ve_if (bt_tru (re_var 4)) (ve_tup (vs_cons (ve_r (re_ix ix_seq opd_ix (re_var 4) (re_int))) (vs_cons (ve_r (re_ix ix_seq opd_ix (re_var 4) (re_int))) (vs_nil)))) (ve_tup (vs_cons (ve_r (re_int)) (vs_cons (ve_r (re_callR (pe_callB call_lenA (by rfl) T.z_len (by decide +kernel) (rs_cons (re_var 0) (rs_nil))) rfl cd_len)) (vs_nil))))))))) (ss_one (se_ret (ve_r (re_var 2))))))
theorem sc_stretches_of : FnScope ["news", "key", "marks", "found", "index", "number", "last", "head"] ["news", "key"] (defScope (top 10)) := ⟨rfl, rfl, rfl, by decide +kernel, rfl, by decide +kernel, by decide +kernel⟩
theorem ok_stretches_of (T : Tx K mg) : OkF P w K mg base 3 "stretches_of" ["news", "key"] d_stretches_of :=
  okF T.x_stretches_of sc_stretches_of (by decide) (fun f cdv A outer s H E hr => ss_cons (se_set 2 sc_stretches_of.nd (ve_calN (ok_marks_of T) (hr.mono (by decide)) fnD_len (ae_val (ve_r (re_var 0)) (ae_val (ve_r (re_var 1)) (ae_nil))))) (ss_cons (se_setO 3 sc_stretches_of.nd (oe_lst (vs_nil))) (ss_cons (se_for PassesOwn.never rfl (ie_range2 (by rfl) T.z_range (rs_cons (re_int) (rs_cons (re_callR (pe_callB call_lenA (by rfl) T.z_len (by decide +kernel) (rs_cons (re_var 2) (rs_nil))) rfl cd_len) (rs_nil)))) (ge_name 4 sc_stretches_of.nd) (ss_cons (se_set 5 sc_stretches_of.nd (ve_r (re_bin op_sub opd_sub (re_ix ix_seq opd_ix (re_ix ix_seq opd_ix (re_var 2) (re_var 4)) (re_int)) (re_ix ix_seq opd_ix (re_ix ix_seq opd_ix (re_var 2) (re_bin op_sub opd_sub (re_var 4) (re_int))) (re_int))))) (ss_one (se_app 3 (ve_tup (vs_cons (ve_r (re_var 1)) (vs_cons (ve_r (re_bin op_addA opd_add (re_ix ix_seq opd_ix (re_ix ix_seq opd_ix (re_var 2) (re_bin op_sub opd_sub (re_var 4) (re_int))) (re_int)) (re_int))) (vs_cons (ve_r (re_ix ix_seq opd_ix (re_ix ix_seq opd_ix (re_var 2) (re_var 4)) (re_int))) (vs_cons (ve_r (re_var 5)) (vs_cons (ve_r (re_var 5)) (vs_nil))))))))))) (ss_cons (se_set 6 sc_stretches_of.nd (ve_r (re_ix ix_seq opd_ix (re_ix ix_seq opd_ix (re_var 2) (re_un un_neg und_neg (re_int))) (re_int)))) (ss_cons (se_set 7 sc_stretches_of.nd (ve_calN (ok_head_of T) (hr.mono (by decide)) fnD_len (ae_val (ve_r (re_var 0)) (ae_nil)))) (ss_cons (se_if (bt_cmp op_ltA opd_lt (re_var 6) (re_var 7)) (ss_one (se_app 3 (ve_tup (vs_cons (ve_r (re_var 1)) (vs_cons (ve_r (re_bin op_addA opd_add (re_var 6) (re_int))) (vs_cons (ve_r (re_var 7)) (vs_cons (ve_r (re_int)) (vs_cons (ve_r (re_bin op_sub opd_sub (re_var 7) (re_var 6))) (vs_nil))))))))) (ss_nil)) (ss_one (se_ret (ve_r (re_var 3))))))))))
theorem sc_count_cells : FnScope ["news", "places", "states", "place"] ["news", "places", "states"] (defScope (top 14)) := ⟨rfl, rfl, rfl, by decide +kernel, rfl, by decide +kernel, by decide +kernel⟩
theorem ok_count_cells (T : Tx K mg) : OkF P w K mg base 3 "count_cells" ["news", "places", "states"] d_count_cells :=
  okF T.x_count_cells sc_count_cells (by decide) (fun f cdv A outer s H E hr => ss_one (se_ret (ve_r (re_callR (pe_callB call_lenA (by rfl) T.z_len (by decide +kernel) (rs_cons (re_v (ve_o (oe_lc (own := [("place", 3)]) rfl sc_count_cells.nd (blkOk_by (by kernel_rfl)) (ie_seq (ve_r (re_var 1))) (fun _ _ _ _ _ => ge_name 3 sc_count_cells.nd) (fun _ _ _ _ _ => bts_one (bt_cmp (op_inA (u65 hr)) opd_in (re_v (ve_calN (ok_cell T) (hr.mono (by decide)) fnD_len (ae_val (ve_r (re_var 0)) (ae_val (ve_r (re_ix ix_seq opd_ix (re_var 3) (re_int))) (ae_val (ve_r (re_ix ix_seq opd_ix (re_var 3) (re_int))) (ae_nil)))))) (re_var 2))) (fun _ _ _ _ _ => ve_r (re_var 3))))) (rs_nil))) rfl cd_len))))
theorem sc__law_told : FnScope ["_law_draw_here", "_law_shelf_here", "_law_history_here", "_law_version", "_law_names", "_law_key", "_law_value_here", "_law_form", "_law_name", "_law_values_here", "_law_number"] ["_law_draw_here", "_law_shelf_here", "_law_history_here"] (defScope (top 25)) := ⟨rfl, rfl, rfl, by decide +kernel, rfl, by decide +kernel, by decide +kernel⟩
theorem ok__law_told (T : Tx K mg) : OkF P w K mg base 3 "_law_told" ["_law_draw_here", "_law_shelf_here", "_law_history_here"] d__law_told :=
  okF T.x__law_told sc__law_told (by decide) (fun f cdv A outer s H E hr => ss_cons (se_set 3 sc__law_told.nd (ve_r (re_bin op_addA opd_add (re_int) (re_v (ve_calN (ok__law_next T) (hr.mono (by decide)) fnD_len (ae_io 0 (ae_val (ve_r (re_callR (pe_callB call_lenA (by rfl) T.z_len (by decide +kernel) (rs_cons (re_var 2) (rs_nil))) rfl cd_len)) (ae_nil)))))))) (ss_cons (se_set 4 sc__law_told.nd (ve_r (re_callR (pe_callTy call_tuple_of (by rfl) T.z_tuple (by decide +kernel) (rs_cons (re_v (ve_o (oe_lc (own := [("_law_key", 5), ("_law_value_here", 6)]) rfl sc__law_told.nd (blkOk_by (by kernel_rfl)) (ie_seq (ve_r (re_ix ix_seq opd_ix (re_var 2) (re_bin op_sub opd_sub (re_var 3) (re_int))))) (fun _ _ _ _ _ => ge_tup rfl (ges_cons (ge_name 5 sc__law_told.nd) (ges_cons (ge_name 6 sc__law_told.nd) (ges_nil)))) (fun _ _ _ _ _ => bts_nil) (fun _ _ _ _ _ => ve_r (re_var 5))))) (rs_nil))) rfl cd_tuple))) (ss_cons (se_set 5 sc__law_told.nd (ve_r (re_ix ix_seq opd_ix (re_var 1) (re_v (ve_calN (ok__law_next T) (hr.mono (by decide)) fnD_len (ae_io 0 (ae_val (ve_r (re_callR (pe_callB call_lenA (by rfl) T.z_len (by decide +kernel) (rs_cons (re_var 1) (rs_nil))) rfl cd_len)) (ae_nil)))))))) (ss_cons (se_set 7 sc__law_told.nd (ve_calN (ok__law_next T) (hr.mono (by decide)) fnD_len (ae_io 0 (ae_val (ve_r (re_int)) (ae_nil))))) (ss_cons (se_if (bt_cmp (op_eqD (u64 hr)) opd_eq (re_var 7) (re_int)) (ss_one (se_ret (ve_tup (vs_cons (ve_r (re_str)) (vs_cons (ve_r (re_var 3)) (vs_cons (ve_r (re_var 4)) (vs_nil))))))) (ss_nil)) (ss_cons (se_if (bt_cmp (op_eqD (u64 hr)) opd_eq (re_var 7) (re_int)) (ss_one (se_ret (ve_tup (vs_cons (ve_r (re_str)) (vs_cons (ve_r (re_var 3)) (vs_cons (ve_r (re_callR (pe_callB call_lenA (by rfl) T.z_len (by decide +kernel) (rs_cons (re_var 4) (rs_nil))) rfl cd_len)) (vs_nil))))))) (ss_nil)) (ss_cons (se_if (bt_cmp (op_eqD (u64 hr)) opd_eq (re_var 7) (re_int)) (ss_one (se_ret (ve_tup (vs_cons (ve_r (re_str)) (vs_cons (ve_r (re_var 3)) (vs_cons (ve_r (re_callR (pe_callTy call_tuple_of (by rfl) T.z_tuple (by decide +kernel) (rs_cons (re_v (ve_o (oe_lc (own := [("_law_name", 8)]) rfl sc__law_told.nd (blkOk_by (by kernel_rfl)) (ie_seq (ve_r (re_var 1))) (fun _ _ _ _ _ => ge_name 8 sc__law_told.nd) (fun _ _ _ _ _ => bts_one (bt_w (bw_or (bt_cmp (op_inA (u65 hr)) opd_in (re_var 8) (re_var 4)) (bw_or1 (bt_cmp (op_eqD (u64 hr)) opd_eq (re_v (ve_calN (ok__law_next T) (hr.mono (by decide)) fnD_len (ae_io 0 (ae_val (ve_r (re_int)) (ae_nil))))) (re_int)))))) (fun _ _ _ _ _ => ve_r (re_var 8))))) (rs_nil))) rfl cd_tuple)) (vs_nil))))))) (ss_nil)) (ss_cons (se_if (bt_cmp (op_eqD (u64 hr)) opd_eq (re_var 7) (re_int)) (ss_one (se_ret (ve_tup (vs_cons (ve_r (re_str)) (vs_cons (ve_r (re_var 3)) (vs_cons (ve_r (re_ix ix_seq opd_ix (re_var 4) (re_v (ve_calN (ok__law_next T) (hr.mono (by decide)) fnD_len (ae_io 0 (ae_val (ve_r (re_callR (pe_callB call_lenA (by rfl) T.z_len (by decide +kernel) (rs_cons (re_var 4) (rs_nil))) rfl cd_len)) (ae_nil))))))) (vs_nil))))))) (ss_nil)) (ss_cons (se_if (bt_cmp op_ltA opd_lt (re_var 7) (re_int)) (ss_one (se_ret (ve_tup (vs_cons (ve_r (re_str)) (vs_cons (ve_r (re_var 5)) (vs_cons (ve_r (re_var 3)) (vs_cons (ve_calN (ok__law_times T) (hr.mono (by decide)) fnD_len (ae_val (ve_r (re_var 2)) (ae_val (ve_r (re_var 5)) (ae_val (ve_r (re_var 3)) (ae_nil))))) (vs_nil)))))))) (ss_nil)) (ss_cons (se_if (bt_cmp (op_eqD (u64 hr)) opd_eq (re_var 7) (re_int)) (ss_one (se_ret (ve_tup (vs_cons (ve_r (re_str)) (vs_cons (ve_r (re_var 3)) (vs_nil)))))) (ss_nil)) (ss_cons (se_set 9 sc__law_told.nd (ve_calN (ok__law_values T) (hr.mono (by decide)) fnD_len (ae_val (ve_r (re_var 2)) (ae_val (ve_r (re_var 5)) (ae_nil))))) (ss_cons (se_set 10 sc__law_told.nd (ve_r (re_bin op_addA opd_add (re_int) (re_v (ve_calN (ok__law_next T) (hr.mono (by decide)) fnD_len (ae_io 0 (ae_val (ve_r (re_int)) (ae_nil)))))))) (ss_one (se_ret (ve_tup (vs_cons (ve_r (re_str)) (vs_cons (ve_r (re_var 5)) (vs_cons (ve_r (re_var 10)) (vs_cons (ve_if (bt_cmp op_leA opd_le (re_var 10) (re_callR (pe_callB call_lenA (by rfl) T.z_len (by decide +kernel) (rs_cons (re_var 9) (rs_nil))) rfl cd_len)) (ve_r (re_ix ix_seq opd_ix (re_var 9) (re_bin op_sub opd_sub (re_var 10) (re_int)))) (ve_calN (ok__law_next T) (hr.mono (by decide)) fnD_len (ae_io 0 (ae_val (ve_r (re_int)) (ae_nil))))) (vs_nil))))))))))))))))))))
theorem sc__law_right : FnScope ["_law_shelf_here", "_law_news_here", "_law_given", "_law_kind", "_law_versions", "_law_named", "_law_parts", "_law_need", "_law_room", "_law_version", "_law_key", "_law_first", "_law_last", "_law_least", "_law_most", "_law_state", "_law_inside", "_law_due"] ["_law_shelf_here", "_law_news_here", "_law_given"] (defScope (top 33)) := ⟨rfl, rfl, rfl, by decide +kernel, rfl, by decide +kernel, by decide +kernel⟩
theorem ok__law_right (T : Tx K mg) : OkF P w K mg base 3 "_law_right" ["_law_shelf_here", "_law_news_here", "_law_given"] d__law_right :=
  okF T.x__law_right sc__law_right (by decide) (fun f cdv A outer s H E hr => ss_cons (se_asg (ve_r (re_var 2)) (ge_tup rfl (ges_cons (ge_name 3 sc__law_right.nd) (ges_cons (ge_name 4 sc__law_right.nd) (ges_cons (ge_name 5 sc__law_right.nd) (ges_nil)))))) (ss_cons (se_set 6 sc__law_right.nd (ve_calN (ok__law_stretches T) (hr.mono (by decide)) fnD_len (ae_val (ve_r (re_var 0)) (ae_val (ve_r (re_var 1)) (ae_nil))))) (ss_cons (se_set 7 sc__law_right.nd (ve_r (re_int))) (ss_cons (se_set 8 sc__law_right.nd (ve_r (re_int))) (ss_cons (se_for PassesOwn.never rfl (ie_range2 (by rfl) T.z_range (rs_cons (re_int) (rs_cons (re_bin op_addA opd_add (re_v (ve_calN (ok__law_head T) (hr.mono (by decide)) fnD_len (ae_val (ve_r (re_var 1)) (ae_nil)))) (re_int)) (rs_nil)))) (ge_name 9 sc__law_right.nd) (ss_cons (se_if (bt_w (bw_and (bt_cmp (op_inA (u65 hr)) opd_in (re_var 9) (re_var 4)) (bw_and1 (bt_cmp (op_eqD (u64 hr)) opd_eq (re_var 3) (re_str))))) (ss_one (se_set 7 sc__law_right.nd (ve_r (re_bin op_addA opd_add (re_var 7) (re_ix ix_seq opd_ix (re_v (ve_calN (ok__law_bounds T) (hr.mono (by decide)) fnD_len (ae_val (ve_r (re_var 0)) (ae_val (ve_r (re_var 1)) (ae_val (ve_r (re_var 9)) (ae_nil)))))) (re_int)))))) (ss_nil)) (ss_cons (se_if (bt_w (bw_and (bt_cmp (op_inA (u65 hr)) opd_in (re_var 9) (re_var 4)) (bw_and1 (bt_cmp (op_eqD (u64 hr)) opd_eq (re_var 3) (re_str))))) (ss_one (se_set 8 sc__law_right.nd (ve_r (re_bin op_addA opd_add (re_var 8) (re_ix ix_seq opd_ix (re_v (ve_calN (ok__law_bounds T) (hr.mono (by decide)) fnD_len (ae_val (ve_r (re_var 0)) (ae_val (ve_r (re_var 1)) (ae_val (ve_r (re_var 9)) (ae_nil)))))) (re_int)))))) (ss_nil)) (ss_one (se_for PassesOwn.never rfl (ie_seq (ve_r (re_var 6))) (ge_tup rfl (ges_cons (ge_name 10 sc__law_right.nd) (ges_cons (ge_name 11 sc__law_right.nd) (ges_cons (ge_name 12 sc__law_right.nd) (ges_cons (ge_name 13 sc__law_right.nd) (ges_cons (ge_name 14 sc__law_right.nd) (ges_nil))))))) (ss_one (se_if (bt_w (bw_and (bt_cmp op_leA opd_le (re_var 11) (re_var 9)) (bw_and1 (bt_cmp op_leA opd_le (re_var 9) (re_var 12))))) (ss_cons (se_set 15 sc__law_right.nd (ve_calN (ok__law_cell T) (hr.mono (by decide)) fnD_len (ae_val (ve_r (re_var 1)) (ae_val (ve_r (re_var 9)) (ae_val (ve_r (re_var 10)) (ae_nil)))))) (ss_cons (se_set 16 sc__law_right.nd (ve_r (re_cmp (op_inA (u65 hr)) opd_in (re_v (ve_tup (vs_cons (ve_r (re_var 10)) (vs_cons (ve_r (re_var 11)) (vs_cons (ve_r (re_var 12)) (vs_nil)))))) (re_var 5)))) (ss_one (se_if (bt_cmp (op_neD (u64 hr)) opd_ne (re_cmp (op_inA (u65 hr)) opd_in (re_var 9) (re_var 4)) (re_var 16)) (ss_cons (se_set 17 sc__law_right.nd (ve_if (bt_cmp (op_eqD (u64 hr)) opd_eq (re_var 3) (re_str)) (ve_r (re_var 16)) (ve_r (re_not (re_var 16))))) (ss_cons (se_set 7 sc__law_right.nd (ve_r (re_bin op_addA opd_add (re_var 7) (re_v (ve_if (bt_w (bw_and (bt_tru (re_var 17)) (bw_and1 (bt_cmp (op_eqD (u64 hr)) opd_eq (re_var 15) (re_int))))) (ve_r (re_int)) (ve_r (re_int))))))) (ss_one (se_set 8 sc__law_right.nd (ve_r (re_bin op_addA opd_add (re_var 8) (re_v (ve_if (bt_w (bw_and (bt_not (bt_tru (re_var 17))) (bw_and1 (bt_cmp op_gtA opd_gt (re_var 15) (re_int))))) (ve_r (re_int)) (ve_r (re_int)))))))))) (ss_nil))))) (ss_nil)))))))) (ss_cons (se_for PassesOwn.never rfl (ie_seq (ve_r (re_var 6))) (ge_tup rfl (ges_cons (ge_name 10 sc__law_right.nd) (ges_cons (ge_name 11 sc__law_right.nd) (ges_cons (ge_name 12 sc__law_right.nd) (ges_cons (ge_name 13 sc__law_right.nd) (ges_cons (ge_name 14 sc__law_right.nd) (ges_nil))))))) (ss_one (se_if (bt_cmp (op_inA (u65 hr)) opd_in (re_v (ve_tup (vs_cons (ve_r (re_var 10)) (vs_cons (ve_r (re_var 11)) (vs_cons (ve_r (re_var 12)) (vs_nil)))))) (re_var 5)) (ss_cons (se_set 8 sc__law_right.nd (ve_r (re_bin op_addA opd_add (re_var 8) (re_v (ve_if (bt_cmp (op_eqD (u64 hr)) opd_eq (re_var 3) (re_str)) (ve_r (re_var 14)) (ve_r (re_int))))))) (ss_one (se_set 7 sc__law_right.nd (ve_r (re_bin op_addA opd_add (re_var 7) (re_v (ve_if (bt_cmp (op_eqD (u64 hr)) opd_eq (re_var 3) (re_str)) (ve_r (re_var 13)) (ve_r (re_int))))))))) (ss_nil)))) (ss_one (se_ret (ve_r (re_cmp op_gtA opd_gt (re_var 7) (re_var 8)))))))))))
theorem sc_stretches : FnScope ["shelf", "news", "key", "stretch"] ["shelf", "news"] (defScope (top 11)) := ⟨rfl, rfl, rfl, by decide +kernel, rfl, by decide +kernel, by decide +kernel⟩
theorem ok_stretches (T : Tx K mg) : OkF P w K mg base 4 "stretches" ["shelf", "news"] d_stretches :=
  okF T.x_stretches sc_stretches (by decide) (fun f cdv A outer s H E hr => ss_one (se_ret (ve_o (oe_lc2 (own := [("key", 2), ("stretch", 3)]) rfl sc_stretches.nd (blkOk_by (by kernel_rfl)) (by decide) (by decide) (ie_seq (ve_r (re_var 0))) (fun _ _ _ _ _ => ge_name 2 sc_stretches.nd) (fun _ _ _ _ _ => bts_nil) (fun _ _ _ _ _ => ie_seq (ve_calN (ok_stretches_of T) (hr.mono (by decide)) fnD_len (ae_val (ve_r (re_var 1)) (ae_val (ve_r (re_var 2)) (ae_nil))))) (fun _ _ _ _ _ => ge_name 3 sc_stretches.nd) (fun _ _ _ _ _ => bts_nil) (fun _ _ _ _ _ => ve_r (re_var 3))))))
theorem sc__law_news : FnScope ["_law_draw_here", "_law_shelf_here", "_law_history_here", "_law_most", "_law_k"] ["_law_draw_here", "_law_shelf_here", "_law_history_here", "_law_most"] (defScope (top 27)) := ⟨rfl, rfl, rfl, by decide +kernel, rfl, by decide +kernel, by decide +kernel⟩
theorem ok__law_news (T : Tx K mg) : OkF P w K mg base 4 "_law_news" ["_law_draw_here", "_law_shelf_here", "_law_history_here", "_law_most"] d__law_news :=
  okF T.x__law_news sc__law_news (by decide) (fun f cdv A outer s H E hr => ss_cons (se_if (bt_not (bt_tru (re_var 2))) (ss_one (se_ret (ve_o (oe_lst (vs_nil))))) (ss_nil)) (ss_one (se_ret (ve_calN (ok__law_once T) (hr.mono (by decide)) fnD_len (ae_val (ve_o (oe_lc (own := [("_law_k", 4)]) rfl sc__law_news.nd (blkOk_by (by kernel_rfl)) (ie_range1 (by rfl) T.z_range (rs_cons (re_v (ve_calN (ok__law_next T) (hr.mono (by decide)) fnD_len (ae_io 0 (ae_val (ve_r (re_bin op_addA opd_add (re_var 3) (re_int))) (ae_nil))))) (rs_nil))) (fun _ _ _ _ _ => ge_name 4 sc__law_news.nd) (fun _ _ _ _ _ => bts_nil) (fun _ _ _ _ _ => ve_calN (ok__law_told T) (hr.mono (by decide)) fnD_len (ae_io 0 (ae_val (ve_r (re_var 1)) (ae_val (ve_r (re_var 2)) (ae_nil))))))) (ae_nil))))))
theorem sc_is_right : FnScope ["shelf", "news", "told", "kind", "versions", "named", "numbers", "others", "version", "parts", "inside", "part", "outside", "need", "room"] ["shelf", "news", "told"] (defScope (top 15)) := ⟨rfl, rfl, rfl, by decide +kernel, rfl, by decide +kernel, by decide +kernel⟩
theorem ok_is_right (T : Tx K mg) : OkF P w K mg base 5 "is_right" ["shelf", "news", "told"] d_is_right :=
  okF T.x_is_right sc_is_right (by decide) (fun f cdv A outer s H E hr => ss_cons (se_asg (ve_r (re_var 2)) (ge_tup rfl (ges_cons (ge_name 3 sc_is_right.nd) (ges_cons (ge_name 4 sc_is_right.nd) (ges_cons (ge_name 5 sc_is_right.nd) (ges_nil)))))) (ss_cons (se_set 6 sc_is_right.nd (ve_calN (ok_bounds T) (hr.mono (by decide)) fnD_len (ae_val (ve_r (re_var 0)) (ae_val (ve_r (re_var 1)) (ae_nil))))) (ss_cons (se_setLc 7 (own := [("version", 8)]) rfl sc_is_right.nd rfl rfl (sw_true rfl rfl rfl (by decide +kernel)) (blkOk_by (by kernel_rfl)) (ie_range2 (by rfl) T.z_range (rs_cons (re_int) (rs_cons (re_bin op_addA opd_add (re_callR (pe_callB call_lenA (by rfl) T.z_len (by decide +kernel) (rs_cons (re_var 6) (rs_nil))) rfl cd_len) (re_int)) (rs_nil)))) (fun _ _ _ _ _ => ge_name 8 sc_is_right.nd) (fun _ _ _ _ _ => bts_one (bt_cmp (op_notInA (u65 hr)) opd_notIn (re_var 8) (re_var 4))) (fun _ _ _ _ _ => ve_r (re_var 8))) (ss_cons (se_set 9 sc_is_right.nd (ve_calN (ok_stretches T) (hr.mono (by decide)) fnD_len (ae_val (ve_r (re_var 0)) (ae_val (ve_r (re_var 1)) (ae_nil))))) (ss_cons (se_setLc 10 (own := [("part", 11)]) rfl sc_is_right.nd rfl rfl (sw_true rfl rfl rfl (by decide +kernel)) (blkOk_by (by kernel_rfl)) (ie_seq (ve_r (re_var 9))) (fun _ _ _ _ _ => ge_name 11 sc_is_right.nd) (fun _ _ _ _ _ => bts_one (bt_cmp (op_inA (u65 hr)) opd_in (re_slice (re_var 11) (pe_no) (pe_sm (re_int))) (re_var 5))) (fun _ _ _ _ _ => ve_r (re_var 11))) (ss_cons (se_setLc 12 (own := [("part", 11)]) rfl sc_is_right.nd rfl rfl (sw_true rfl rfl rfl (by decide +kernel)) (blkOk_by (by kernel_rfl)) (ie_seq (ve_r (re_var 9))) (fun _ _ _ _ _ => ge_name 11 sc_is_right.nd) (fun _ _ _ _ _ => bts_one (bt_cmp (op_notInA (u65 hr)) opd_notIn (re_slice (re_var 11) (pe_no) (pe_sm (re_int))) (re_var 5))) (fun _ _ _ _ _ => ve_r (re_var 11))) (ss_cons (se_if (bt_cmp (op_eqD (u64 hr)) opd_eq (re_var 3) (re_str)) (ss_cons (se_set 13 sc_is_right.nd (ve_r (re_callR (pe_callB (cr_sum rfl) (by rfl) T.z_sum (by decide +kernel) (rs_cons (re_v (ve_o (oe_lc (own := [("version", 8)]) rfl sc_is_right.nd (blkOk_by (by kernel_rfl)) (ie_seq (ve_r (re_var 4))) (fun _ _ _ _ _ => ge_name 8 sc_is_right.nd) (fun _ _ _ _ _ => bts_nil) (fun _ _ _ _ _ => ve_r (re_ix ix_seq opd_ix (re_ix ix_seq opd_ix (re_var 6) (re_bin op_sub opd_sub (re_var 8) (re_int))) (re_int)))))) (rs_nil))) rfl cd_sum))) (ss_cons (se_augAdd 13 sc_is_right.nd (re_v (ve_calN (ok_count_cells T) (hr.mono (by decide)) fnD_len (ae_val (ve_r (re_var 1)) (ae_val (ve_calN (ok_cells T) (hr.mono (by decide)) fnD_len (ae_val (ve_r (re_var 7)) (ae_val (ve_r (re_var 10)) (ae_nil)))) (ae_val (ve_tup (vs_cons (ve_r (re_str)) (vs_nil))) (ae_nil))))))) (ss_cons (se_set 14 sc_is_right.nd (ve_r (re_callR (pe_callB (cr_sum rfl) (by rfl) T.z_sum (by decide +kernel) (rs_cons (re_v (ve_o (oe_lc (own := [("part", 11)]) rfl sc_is_right.nd (blkOk_by (by kernel_rfl)) (ie_seq (ve_r (re_var 10))) (fun _ _ _ _ _ => ge_name 11 sc_is_right.nd) (fun _ _ _ _ _ => bts_nil) (fun _ _ _ _ _ => ve_r (re_ix ix_seq opd_ix (re_var 11) (re_int)))))) (rs_nil))) rfl cd_sum))) (ss_one (se_ret (ve_r (re_cmp op_gtA opd_gt (re_var 13) (re_bin op_addA opd_add (re_var 14) (re_v (ve_calN (ok_count_cells T) (hr.mono (by decide)) fnD_len (ae_val (ve_r (re_var 1)) (ae_val (ve_calN (ok_cells T) (hr.mono (by decide)) fnD_len (ae_val (ve_r (re_var 4)) (ae_val (ve_r (re_var 12)) (ae_nil)))) (ae_val (ve_tup (vs_cons (ve_r (re_str)) (vs_cons (ve_r (re_str)) (vs_nil)))) (ae_nil)))))))))))))) (ss_nil)) (ss_cons (se_set 13 sc_is_right.nd (ve_r (re_callR (pe_callB (cr_sum rfl) (by rfl) T.z_sum (by decide +kernel) (rs_cons (re_v (ve_o (oe_lc (own := [("part", 11)]) rfl sc_is_right.nd (blkOk_by (by kernel_rfl)) (ie_seq (ve_r (re_var 10))) (fun _ _ _ _ _ => ge_name 11 sc_is_right.nd) (fun _ _ _ _ _ => bts_nil) (fun _ _ _ _ _ => ve_r (re_ix ix_seq opd_ix (re_var 11) (re_int)))))) (rs_nil))) rfl cd_sum))) (ss_cons (se_augAdd 13 sc_is_right.nd (re_v (ve_calN (ok_count_cells T) (hr.mono (by decide)) fnD_len (ae_val (ve_r (re_var 1)) (ae_val (ve_calN (ok_cells T) (hr.mono (by decide)) fnD_len (ae_val (ve_r (re_var 4)) (ae_val (ve_r (re_var 12)) (ae_nil)))) (ae_val (ve_tup (vs_cons (ve_r (re_str)) (vs_nil))) (ae_nil))))))) (ss_cons (se_set 14 sc_is_right.nd (ve_r (re_callR (pe_callB (cr_sum rfl) (by rfl) T.z_sum (by decide +kernel) (rs_cons (re_v (ve_o (oe_lc (own := [("version", 8)]) rfl sc_is_right.nd (blkOk_by (by kernel_rfl)) (ie_seq (ve_r (re_var 4))) (fun _ _ _ _ _ => ge_name 8 sc_is_right.nd) (fun _ _ _ _ _ => bts_nil) (fun _ _ _ _ _ => ve_r (re_ix ix_seq opd_ix (re_ix ix_seq opd_ix (re_var 6) (re_bin op_sub opd_sub (re_var 8) (re_int))) (re_int)))))) (rs_nil))) rfl cd_sum))) (ss_one (se_ret (ve_r (re_cmp op_gtA opd_gt (re_var 13) (re_bin op_addA opd_add (re_var 14) (re_v (ve_calN (ok_count_cells T) (hr.mono (by decide)) fnD_len (ae_val (ve_r (re_var 1)) (ae_val (ve_calN (ok_cells T) (hr.mono (by decide)) fnD_len (ae_val (ve_r (re_var 7)) (ae_val (ve_r (re_var 10)) (ae_nil)))) (ae_val (ve_tup (vs_cons (ve_r (re_str)) (vs_cons (ve_r (re_str)) (vs_nil)))) (ae_nil)))))))))))))))))))))
theorem sc__law_same : FnScope ["_law_actual", "_law_due", "_law_k"] ["_law_actual", "_law_due"] (defScope (top 19)) := ⟨rfl, rfl, rfl, by decide +kernel, rfl, by decide +kernel, by decide +kernel⟩
theorem dl__law_same : ∀ (n : Nat) (ρ0 : Rho) (rv : Rv) (ρ1 : Rho), d__law_same n ρ0 = some (rv, ρ1) → ρ0.length = 2
  | 0, _, _, _, h => nomatch h
  | n + 1, _, _, _, h => fnD_len _ _ _ h
theorem ok__law_same (T : Tx K mg) : ∀ n : Nat, OkF P w K mg base (0 + n + 1) "_law_same" ["_law_actual", "_law_due"] (d__law_same n)
  | 0 => okF0 T.x__law_same _
  | n + 1 => by
    have G := ok__law_same T n
    exact okF T.x__law_same sc__law_same (by decide) (fun f cdv A outer s H E hr => ss_cons (se_if (bt_tru (re_isi2 (re_var 1) T.z_isinstance T.z_list T.z_tuple (by decide +kernel) (by decide +kernel))) (ss_cons (se_if (bt_w (bw_or (bt_cmp (op_neD (u64 hr)) opd_ne (re_isi (re_var 1) T.z_isinstance T.z_list (by decide +kernel)) (re_isi (re_var 0) T.z_isinstance T.z_list (by decide +kernel))) (bw_or1 (bt_cmp (op_neD (u64 hr)) opd_ne (re_isi (re_var 1) T.z_isinstance T.z_tuple (by decide +kernel)) (re_isi (re_var 0) T.z_isinstance T.z_tuple (by decide +kernel)))))) (ss_one (se_ret (ve_r (re_bl)))) (ss_nil)) (ss_cons (se_if (bt_cmp (op_neD (u64 hr)) opd_ne (re_callR (pe_callB call_lenA (by rfl) T.z_len (by decide +kernel) (rs_cons (re_var 0) (rs_nil))) rfl cd_len) (re_callR (pe_callB call_lenA (by rfl) T.z_len (by decide +kernel) (rs_cons (re_var 1) (rs_nil))) rfl cd_len)) (ss_one (se_ret (ve_r (re_bl)))) (ss_nil)) (ss_one (se_ret (ve_r (re_callR (pe_callB (cr_all rfl) (by rfl) T.z_all (by decide +kernel) (rs_cons (re_v (ve_o (oe_lc (own := [("_law_k", 2)]) rfl sc__law_same.nd (blkOk_by (by kernel_rfl)) (ie_range1 (by rfl) T.z_range (rs_cons (re_callR (pe_callB call_lenA (by rfl) T.z_len (by decide +kernel) (rs_cons (re_var 1) (rs_nil))) rfl cd_len) (rs_nil))) (fun _ _ _ _ _ => ge_name 2 sc__law_same.nd) (fun _ _ _ _ _ => bts_nil) (fun _ _ _ _ _ => ve_calN G hr (dl__law_same n) (ae_val (ve_r (re_ix ix_seq opd_ix (re_var 0) (re_var 2))) (ae_val (ve_r (re_ix ix_seq opd_ix (re_var 1) (re_var 2))) (ae_nil))))))) (rs_nil))) rfl cd_all)))))) (ss_nil)) (ss_cons (se_if (bt_cmp op_isN opd_is (re_var 1) (re_non)) (ss_one (se_ret (ve_r (re_cmp op_isN opd_is (re_var 0) (re_non))))) (ss_nil)) (ss_cons (se_if (bt_cmp (op_neD (u64 hr)) opd_ne (re_isi (re_var 1) T.z_isinstance T.z_bool (by decide +kernel)) (re_isi (re_var 0) T.z_isinstance T.z_bool (by decide +kernel))) (ss_one (se_ret (ve_r (re_bl)))) (ss_nil)) (ss_cons (se_if (bt_tru (re_isi (re_var 1) T.z_isinstance T.z_str (by decide +kernel))) (ss_one (se_ret (ve_r (re_and (re_isi (re_var 0) T.z_isinstance T.z_str (by decide +kernel)) (re_one (re_cmp (op_eqD (u64 hr)) opd_eq (re_var 0) (re_var 1))))))) (ss_nil)) (ss_one (se_ret (ve_r (re_and (re_isi (re_var 0) T.z_isinstance T.z_int (by decide +kernel)) (re_one (re_cmp (op_eqD (u64 hr)) opd_eq (re_var 0) (re_var 1)))))))))))
theorem sc_law : FnScope ["_law_script", "_law_draw_here", "_law_shelf_here", "_law_versions", "_law_history_here", "_law_news_here", "_law_k", "_law_parts", "_law_turn", "_law_some", "_law_named", "_law_part", "_law_chosen", "_law_version", "_law_kind"] ["_law_script"] (defScope (top 35)) := ⟨rfl, rfl, rfl, by decide +kernel, rfl, by decide +kernel, by decide +kernel⟩
def law_level : Nat := 9
theorem body_law (T : Tx K mg) (f : Addr) (cdv : Value) (A : Around) (outer : List Env) (s : Shared) (H : Hp) (E : XK) (hr : Room 9 (A.deeper (PyProof.Rows.envOfC "law" (defScope (top 35)) s.heap.objs.size f cdv))) :
    SEs (cxOf CX0 P w K mg base ["_law_script", "_law_draw_here", "_law_shelf_here", "_law_versions", "_law_history_here", "_law_news_here", "_law_k", "_law_parts", "_law_turn", "_law_some", "_law_named", "_law_part", "_law_chosen", "_law_version", "_law_kind"] "law" (defScope (top 35)) f cdv A outer s H E).nox (defBody (top 35)) b_law := ss_cons (se_setO 1 sc_law.nd (oe_calN (ok__law_draw T) (hr.mono (by decide)) fnD_len (ae_val (ve_r (re_var 0)) (ae_nil)))) (ss_cons (se_set 2 sc_law.nd (ve_calN (ok__law_shelf T) (hr.mono (by decide)) fnD_len (ae_io 1 (ae_val (ve_r (re_int)) (ae_nil))))) (ss_cons (se_set 3 sc_law.nd (ve_r (re_bin op_addA opd_add (re_int) (re_v (ve_calN (ok__law_next T) (hr.mono (by decide)) fnD_len (ae_io 1 (ae_val (ve_r (re_int)) (ae_nil)))))))) (ss_cons (se_set 4 sc_law.nd (ve_calN (ok__law_history T) (hr.mono (by decide)) fnD_len (ae_io 1 (ae_val (ve_r (re_var 2)) (ae_val (ve_r (re_var 3)) (ae_nil)))))) (ss_cons (se_set 5 sc_law.nd (ve_r (re_bin op_addA opd_add (re_v (ve_calN (ok__law_news T) (hr.mono (by decide)) fnD_len (ae_io 1 (ae_val (ve_r (re_var 2)) (ae_val (ve_r (re_var 4)) (ae_val (ve_r (re_int)) (ae_nil))))))) (re_v (ve_o (oe_lc (own := [("_law_k", 6)]) rfl sc_law.nd (blkOk_by (by kernel_rfl)) (ie_range1 (by rfl) T.z_range (rs_cons (re_v (ve_calN (ok__law_next T) (hr.mono (by decide)) fnD_len (ae_io 1 (ae_val (ve_r (re_int)) (ae_nil))))) (rs_nil))) (fun _ _ _ _ _ => ge_name 6 sc_law.nd) (fun _ _ _ _ _ => bts_nil) (fun _ _ _ _ _ => ve_calN (ok__law_wild T) (hr.mono (by decide)) fnD_len (ae_io 1 (ae_val (ve_r (re_var 2)) (ae_val (ve_r (re_var 3)) (ae_nil))))))))))) (ss_cons (se_if (bt_tru (re_v (ve_calN (ok__law_clash T) (hr.mono (by decide)) fnD_len (ae_val (ve_r (re_var 2)) (ae_val (ve_r (re_var 5)) (ae_nil)))))) (ss_one (se_ret (ve_r (re_bl)))) (ss_nil)) (ss_cons (se_set 7 sc_law.nd (ve_calN (ok__law_stretches T) (hr.mono (by decide)) fnD_len (ae_val (ve_r (re_var 2)) (ae_val (ve_r (re_var 5)) (ae_nil))))) (ss_cons (se_if (bt_not (bt_tru (re_v (ve_calN (ok__law_same T 8) (hr.mono (by decide)) (dl__law_same 8) (ae_val (ve_calN (ok_stretches T) (hr.mono (by decide)) fnD_len (ae_val (ve_r (re_var 2)) (ae_val (ve_r (re_var 5)) (ae_nil)))) (ae_val (ve_r (re_var 7)) (ae_nil))))))) (ss_one (se_ret (ve_r (re_bl)))) (ss_nil)) (ss_cons (se_for PassesOwn.never rfl (ie_range1 (by rfl) T.z_range (rs_cons (re_int) (rs_nil))) (ge_name 8 sc_law.nd) (ss_cons (se_set 9 sc_law.nd (ve_r (re_bin op_addA opd_add (re_int) (re_v (ve_calN (ok__law_next T) (hr.mono (by decide)) fnD_len (ae_io 1 (ae_val (ve_r (re_int)) (ae_nil)))))))) (ss_cons (se_set 10 sc_law.nd (ve_r (re_callR (pe_callTy call_tuple_of (by rfl) T.z_tuple (by decide +kernel) (rs_cons (re_v (ve_o (oe_lc (own := [("_law_part", 11)]) rfl sc_law.nd (blkOk_by (by kernel_rfl)) (ie_seq (ve_r (re_var 7))) (fun _ _ _ _ _ => ge_name 11 sc_law.nd) (fun _ _ _ _ _ => bts_one (bt_cmp (op_eqD (u64 hr)) opd_eq (re_v (ve_calN (ok__law_next T) (hr.mono (by decide)) fnD_len (ae_io 1 (ae_val (ve_r (re_var 9)) (ae_nil))))) (re_int))) (fun _ _ _ _ _ => ve_r (re_slice (re_var 11) (pe_no) (pe_sm (re_int))))))) (rs_nil))) rfl cd_tuple))) (ss_cons (se_set 12 sc_law.nd (ve_r (re_callR (pe_callTy call_tuple_of (by rfl) T.z_tuple (by decide +kernel) (rs_cons (re_v (ve_o (oe_lc (own := [("_law_version", 13)]) rfl sc_law.nd (blkOk_by (by kernel_rfl)) (ie_range2 (by rfl) T.z_range (rs_cons (re_int) (rs_cons (re_bin op_addA opd_add (re_v (ve_calN (ok__law_head T) (hr.mono (by decide)) fnD_len (ae_val (ve_r (re_var 5)) (ae_nil)))) (re_int)) (rs_nil)))) (fun _ _ _ _ _ => ge_name 13 sc_law.nd) (fun _ _ _ _ _ => bts_one (bt_cmp (op_eqD (u64 hr)) opd_eq (re_v (ve_calN (ok__law_next T) (hr.mono (by decide)) fnD_len (ae_io 1 (ae_val (ve_r (re_var 9)) (ae_nil))))) (re_int))) (fun _ _ _ _ _ => ve_r (re_var 13))))) (rs_nil))) rfl cd_tuple))) (ss_one (se_for PassesOwn.never rfl (ie_seq (ve_o (oe_lst (vs_cons (ve_r (re_str)) (vs_cons (ve_r (re_str)) (vs_nil)))))) (ge_name 14 sc_law.nd) (ss_one (se_if (bt_not (bt_tru (re_v (ve_calN (ok__law_same T 8) (hr.mono (by decide)) (dl__law_same 8) (ae_val (ve_calN (ok_is_right T) (hr.mono (by decide)) fnD_len (ae_val (ve_r (re_var 2)) (ae_val (ve_r (re_var 5)) (ae_val (ve_tup (vs_cons (ve_r (re_var 14)) (vs_cons (ve_r (re_var 12)) (vs_cons (ve_r (re_var 10)) (vs_nil))))) (ae_nil))))) (ae_val (ve_calN (ok__law_right T) (hr.mono (by decide)) fnD_len (ae_val (ve_r (re_var 2)) (ae_val (ve_r (re_var 5)) (ae_val (ve_tup (vs_cons (ve_r (re_var 14)) (vs_cons (ve_r (re_var 12)) (vs_cons (ve_r (re_var 10)) (vs_nil))))) (ae_nil))))) (ae_nil))))))) (ss_one (se_ret (ve_r (re_bl)))) (ss_nil))))))))) (ss_one (se_ret (ve_r (re_bl))))))))))))
def law_names : List Str := ["_law_script", "_law_draw_here", "_law_shelf_here", "_law_versions", "_law_history_here", "_law_news_here", "_law_k", "_law_parts", "_law_turn", "_law_some", "_law_named", "_law_part", "_law_chosen", "_law_version", "_law_kind"]
end
end Vw
namespace Vh
open PySem PySem.Spec PyProof.Rows L2
abbrev tp : Nat → Stmt := Vw.top
def D1 : He.DefD := ⟨("version_of", none), "version_of", "version_of", defArgs (tp 1), defBody (tp 1), defScope (tp 1), [], []⟩
def D2 : He.DefD := ⟨("head_of", none), "head_of", "head_of", defArgs (tp 2), defBody (tp 2), defScope (tp 2), [], []⟩
def D4 : He.DefD := ⟨("numbers_at", none), "numbers_at", "numbers_at", defArgs (tp 4), defBody (tp 4), defScope (tp 4), [], []⟩
def D5 : He.DefD := ⟨("bounds", none), "bounds", "bounds", defArgs (tp 5), defBody (tp 5), defScope (tp 5), [], []⟩
def D6 : He.DefD := ⟨("is_shut", none), "is_shut", "is_shut", defArgs (tp 6), defBody (tp 6), defScope (tp 6), [], []⟩
def D7 : He.DefD := ⟨("is_due", none), "is_due", "is_due", defArgs (tp 7), defBody (tp 7), defScope (tp 7), [], []⟩
def D8 : He.DefD := ⟨("cell", none), "cell", "cell", defArgs (tp 8), defBody (tp 8), defScope (tp 8), [], []⟩
def D9 : He.DefD := ⟨("marks_of", none), "marks_of", "marks_of", defArgs (tp 9), defBody (tp 9), defScope (tp 9), [], []⟩
def D10 : He.DefD := ⟨("stretches_of", none), "stretches_of", "stretches_of", defArgs (tp 10), defBody (tp 10), defScope (tp 10), [], []⟩
def D11 : He.DefD := ⟨("stretches", none), "stretches", "stretches", defArgs (tp 11), defBody (tp 11), defScope (tp 11), [], []⟩
def D13 : He.DefD := ⟨("cells", none), "cells", "cells", defArgs (tp 13), defBody (tp 13), defScope (tp 13), [], []⟩
def D14 : He.DefD := ⟨("count_cells", none), "count_cells", "count_cells", defArgs (tp 14), defBody (tp 14), defScope (tp 14), [], []⟩
def D15 : He.DefD := ⟨("is_right", none), "is_right", "is_right", defArgs (tp 15), defBody (tp 15), defScope (tp 15), [], []⟩
def D17 : He.DefD := ⟨("_law_draw", none), "_law_draw", "_law_draw", defArgs (tp 17), defBody (tp 17), defScope (tp 17), [], []⟩
def D18 : He.DefD := ⟨("_law_next", none), "_law_next", "_law_next", defArgs (tp 18), defBody (tp 18), defScope (tp 18), [], []⟩
def D19 : He.DefD := ⟨("_law_same", none), "_law_same", "_law_same", defArgs (tp 19), defBody (tp 19), defScope (tp 19), [], []⟩
def D20 : He.DefD := ⟨("_law_shelf", none), "_law_shelf", "_law_shelf", defArgs (tp 20), defBody (tp 20), defScope (tp 20), [], []⟩
def D21 : He.DefD := ⟨("_law_history", none), "_law_history", "_law_history", defArgs (tp 21), defBody (tp 21), defScope (tp 21), [], []⟩
def D22 : He.DefD := ⟨("_law_values", none), "_law_values", "_law_values", defArgs (tp 22), defBody (tp 22), defScope (tp 22), [], []⟩
def D23 : He.DefD := ⟨("_law_times", none), "_law_times", "_law_times", defArgs (tp 23), defBody (tp 23), defScope (tp 23), [], []⟩
def D24 : He.DefD := ⟨("_law_value", none), "_law_value", "_law_value", defArgs (tp 24), defBody (tp 24), defScope (tp 24), [], []⟩
def D25 : He.DefD := ⟨("_law_told", none), "_law_told", "_law_told", defArgs (tp 25), defBody (tp 25), defScope (tp 25), [], []⟩
def D26 : He.DefD := ⟨("_law_once", none), "_law_once", "_law_once", defArgs (tp 26), defBody (tp 26), defScope (tp 26), [], []⟩
def D27 : He.DefD := ⟨("_law_news", none), "_law_news", "_law_news", defArgs (tp 27), defBody (tp 27), defScope (tp 27), [], []⟩
def D28 : He.DefD := ⟨("_law_wild", none), "_law_wild", "_law_wild", defArgs (tp 28), defBody (tp 28), defScope (tp 28), [], []⟩
def D29 : He.DefD := ⟨("_law_head", none), "_law_head", "_law_head", defArgs (tp 29), defBody (tp 29), defScope (tp 29), [], []⟩
def D30 : He.DefD := ⟨("_law_stretches", none), "_law_stretches", "_law_stretches", defArgs (tp 30), defBody (tp 30), defScope (tp 30), [], []⟩
def D31 : He.DefD := ⟨("_law_cell", none), "_law_cell", "_law_cell", defArgs (tp 31), defBody (tp 31), defScope (tp 31), [], []⟩
def D32 : He.DefD := ⟨("_law_bounds", none), "_law_bounds", "_law_bounds", defArgs (tp 32), defBody (tp 32), defScope (tp 32), [], []⟩
def D33 : He.DefD := ⟨("_law_right", none), "_law_right", "_law_right", defArgs (tp 33), defBody (tp 33), defScope (tp 33), [], []⟩
def D34 : He.DefD := ⟨("_law_clash", none), "_law_clash", "_law_clash", defArgs (tp 34), defBody (tp 34), defScope (tp 34), [], []⟩
def D35 : He.DefD := ⟨("law", none), "law", "law", defArgs (tp 35), defBody (tp 35), defScope (tp 35), [], []⟩
def fn : List He.DefD := [D1, D2, D4, D5, D6, D7, D8, D9, D10, D11, D13, D14, D15, D17, D18, D19, D20, D21, D22, D23, D24, D25, D26, D27, D28, D29, D30, D31, D32, D33, D34, D35]
def fa : List He.Fa := [.glo "version_of", .glo "head_of", .glo "numbers_at", .glo "bounds", .glo "is_shut", .glo "is_due", .glo "cell", .glo "marks_of", .glo "stretches_of", .glo "stretches", .glo "cells", .glo "count_cells", .glo "is_right", .glo "_law_draw", .glo "_law_next", .glo "_law_same", .glo "_law_shelf", .glo "_law_history", .glo "_law_values", .glo "_law_times", .glo "_law_value", .glo "_law_told", .glo "_law_once", .glo "_law_news", .glo "_law_wild", .glo "_law_head", .glo "_law_stretches", .glo "_law_cell", .glo "_law_bounds", .glo "_law_right", .glo "_law_clash", .glo "law", .free "len", .free "range", .free "tuple", .free "isinstance", .free "list", .free "int", .free "all", .free "max", .free "abs", .free "sum", .free "str", .free "bool", .free "sorted"]
def nm0 : List PySem.Str := ["version_of", "head_of", "numbers_at", "bounds", "is_shut", "is_due", "cell", "marks_of", "stretches_of", "stretches", "cells", "count_cells", "is_right", "_law_draw", "_law_next", "_law_same", "_law_shelf", "_law_history", "_law_values", "_law_times"]
def nm1 : List PySem.Str := ["_law_value", "_law_told", "_law_once", "_law_news", "_law_wild", "_law_head", "_law_stretches", "_law_cell", "_law_bounds", "_law_right", "_law_clash"]
def nm : List PySem.Str := nm0 ++ nm1
abbrev R : PySem.W.OpenRow := PySem.W.OpenLaw.row PySem.Challenge.rw_suresnap_k04_papers_are_checked_by_count
abbrev hk : PySem.W.Hook := He.hookD 4 fa fn
def ob (s : PySem.W.SharedT) : He.AlD := He.obsDG 4 fa fn (HandSHeadRun.getT s)
theorem ob_eq (s : PySem.W.SharedT) : ob s = hk.obs s.abs := He.obsDG_eq (HandSHeadRun.getT_eq s)
theorem run (w : World) : HandSHeadRun.RunEq R (PySem.W.view R.prog [35]) hk ob 4000 nm w := by
  intro os
  kernel_rfl
section
variable {K : PySem.W.Frag} {h : Heap} {mg : Str → Option Value}
theorem fx_version_of (X : K.In h) (G : h.Ns mainGlobals mg) (c : He.SaysD fa fn K) : Vx.Fx K mg "version_of" (tp 1) ["piece"] := by
  obtain ⟨fd, F⟩ := c.def_ 0 (d := D1) rfl
  exact ⟨_, fd, F, F.bindsN fun _ _ _ _ _ _ us hl => match us, hl with | [_], _ => rfl, He.glo_ok X G (c.fact 0 (f := .glo "version_of") rfl)⟩
theorem fx_head_of (X : K.In h) (G : h.Ns mainGlobals mg) (c : He.SaysD fa fn K) : Vx.Fx K mg "head_of" (tp 2) ["news"] := by
  obtain ⟨fd, F⟩ := c.def_ 1 (d := D2) rfl
  exact ⟨_, fd, F, F.bindsN fun _ _ _ _ _ _ us hl => match us, hl with | [_], _ => rfl, He.glo_ok X G (c.fact 1 (f := .glo "head_of") rfl)⟩
theorem fx_numbers_at (X : K.In h) (G : h.Ns mainGlobals mg) (c : He.SaysD fa fn K) : Vx.Fx K mg "numbers_at" (tp 4) ["news", "version"] := by
  obtain ⟨fd, F⟩ := c.def_ 2 (d := D4) rfl
  exact ⟨_, fd, F, F.bindsN fun _ _ _ _ _ _ us hl => match us, hl with | [_, _], _ => rfl, He.glo_ok X G (c.fact 2 (f := .glo "numbers_at") rfl)⟩
theorem fx_bounds (X : K.In h) (G : h.Ns mainGlobals mg) (c : He.SaysD fa fn K) : Vx.Fx K mg "bounds" (tp 5) ["shelf", "news"] := by
  obtain ⟨fd, F⟩ := c.def_ 3 (d := D5) rfl
  exact ⟨_, fd, F, F.bindsN fun _ _ _ _ _ _ us hl => match us, hl with | [_, _], _ => rfl, He.glo_ok X G (c.fact 3 (f := .glo "bounds") rfl)⟩
theorem fx_is_shut (X : K.In h) (G : h.Ns mainGlobals mg) (c : He.SaysD fa fn K) : Vx.Fx K mg "is_shut" (tp 6) ["news", "version", "key"] := by
  obtain ⟨fd, F⟩ := c.def_ 4 (d := D6) rfl
  exact ⟨_, fd, F, F.bindsN fun _ _ _ _ _ _ us hl => match us, hl with | [_, _, _], _ => rfl, He.glo_ok X G (c.fact 4 (f := .glo "is_shut") rfl)⟩
theorem fx_is_due (X : K.In h) (G : h.Ns mainGlobals mg) (c : He.SaysD fa fn K) : Vx.Fx K mg "is_due" (tp 7) ["news", "version", "key"] := by
  obtain ⟨fd, F⟩ := c.def_ 5 (d := D7) rfl
  exact ⟨_, fd, F, F.bindsN fun _ _ _ _ _ _ us hl => match us, hl with | [_, _, _], _ => rfl, He.glo_ok X G (c.fact 5 (f := .glo "is_due") rfl)⟩
theorem fx_cell (X : K.In h) (G : h.Ns mainGlobals mg) (c : He.SaysD fa fn K) : Vx.Fx K mg "cell" (tp 8) ["news", "version", "key"] := by
  obtain ⟨fd, F⟩ := c.def_ 6 (d := D8) rfl
  exact ⟨_, fd, F, F.bindsN fun _ _ _ _ _ _ us hl => match us, hl with | [_, _, _], _ => rfl, He.glo_ok X G (c.fact 6 (f := .glo "cell") rfl)⟩
theorem fx_marks_of (X : K.In h) (G : h.Ns mainGlobals mg) (c : He.SaysD fa fn K) : Vx.Fx K mg "marks_of" (tp 9) ["news", "key"] := by
  obtain ⟨fd, F⟩ := c.def_ 7 (d := D9) rfl
  exact ⟨_, fd, F, F.bindsN fun _ _ _ _ _ _ us hl => match us, hl with | [_, _], _ => rfl, He.glo_ok X G (c.fact 7 (f := .glo "marks_of") rfl)⟩
theorem fx_stretches_of (X : K.In h) (G : h.Ns mainGlobals mg) (c : He.SaysD fa fn K) : Vx.Fx K mg "stretches_of" (tp 10) ["news", "key"] := by
  obtain ⟨fd, F⟩ := c.def_ 8 (d := D10) rfl
  exact ⟨_, fd, F, F.bindsN fun _ _ _ _ _ _ us hl => match us, hl with | [_, _], _ => rfl, He.glo_ok X G (c.fact 8 (f := .glo "stretches_of") rfl)⟩
theorem fx_stretches (X : K.In h) (G : h.Ns mainGlobals mg) (c : He.SaysD fa fn K) : Vx.Fx K mg "stretches" (tp 11) ["shelf", "news"] := by
  obtain ⟨fd, F⟩ := c.def_ 9 (d := D11) rfl
  exact ⟨_, fd, F, F.bindsN fun _ _ _ _ _ _ us hl => match us, hl with | [_, _], _ => rfl, He.glo_ok X G (c.fact 9 (f := .glo "stretches") rfl)⟩
theorem fx_cells (X : K.In h) (G : h.Ns mainGlobals mg) (c : He.SaysD fa fn K) : Vx.Fx K mg "cells" (tp 13) ["versions", "parts"] := by
  obtain ⟨fd, F⟩ := c.def_ 10 (d := D13) rfl
  exact ⟨_, fd, F, F.bindsN fun _ _ _ _ _ _ us hl => match us, hl with | [_, _], _ => rfl, He.glo_ok X G (c.fact 10 (f := .glo "cells") rfl)⟩
theorem fx_count_cells (X : K.In h) (G : h.Ns mainGlobals mg) (c : He.SaysD fa fn K) : Vx.Fx K mg "count_cells" (tp 14) ["news", "places", "states"] := by
  obtain ⟨fd, F⟩ := c.def_ 11 (d := D14) rfl
  exact ⟨_, fd, F, F.bindsN fun _ _ _ _ _ _ us hl => match us, hl with | [_, _, _], _ => rfl, He.glo_ok X G (c.fact 11 (f := .glo "count_cells") rfl)⟩
theorem fx_is_right (X : K.In h) (G : h.Ns mainGlobals mg) (c : He.SaysD fa fn K) : Vx.Fx K mg "is_right" (tp 15) ["shelf", "news", "told"] := by
  obtain ⟨fd, F⟩ := c.def_ 12 (d := D15) rfl
  exact ⟨_, fd, F, F.bindsN fun _ _ _ _ _ _ us hl => match us, hl with | [_, _, _], _ => rfl, He.glo_ok X G (c.fact 12 (f := .glo "is_right") rfl)⟩
theorem fx__law_draw (X : K.In h) (G : h.Ns mainGlobals mg) (c : He.SaysD fa fn K) : Vx.Fx K mg "_law_draw" (tp 17) ["_law_script"] := by
  obtain ⟨fd, F⟩ := c.def_ 13 (d := D17) rfl
  exact ⟨_, fd, F, F.bindsN fun _ _ _ _ _ _ us hl => match us, hl with | [_], _ => rfl, He.glo_ok X G (c.fact 13 (f := .glo "_law_draw") rfl)⟩
theorem fx__law_next (X : K.In h) (G : h.Ns mainGlobals mg) (c : He.SaysD fa fn K) : Vx.Fx K mg "_law_next" (tp 18) ["_law_draw_here", "_law_many"] := by
  obtain ⟨fd, F⟩ := c.def_ 14 (d := D18) rfl
  exact ⟨_, fd, F, F.bindsN fun _ _ _ _ _ _ us hl => match us, hl with | [_, _], _ => rfl, He.glo_ok X G (c.fact 14 (f := .glo "_law_next") rfl)⟩
theorem fx__law_same (X : K.In h) (G : h.Ns mainGlobals mg) (c : He.SaysD fa fn K) : Vx.Fx K mg "_law_same" (tp 19) ["_law_actual", "_law_due"] := by
  obtain ⟨fd, F⟩ := c.def_ 15 (d := D19) rfl
  exact ⟨_, fd, F, F.bindsN fun _ _ _ _ _ _ us hl => match us, hl with | [_, _], _ => rfl, He.glo_ok X G (c.fact 15 (f := .glo "_law_same") rfl)⟩
theorem fx__law_shelf (X : K.In h) (G : h.Ns mainGlobals mg) (c : He.SaysD fa fn K) : Vx.Fx K mg "_law_shelf" (tp 20) ["_law_draw_here", "_law_most"] := by
  obtain ⟨fd, F⟩ := c.def_ 16 (d := D20) rfl
  exact ⟨_, fd, F, F.bindsN fun _ _ _ _ _ _ us hl => match us, hl with | [_, _], _ => rfl, He.glo_ok X G (c.fact 16 (f := .glo "_law_shelf") rfl)⟩
theorem fx__law_history (X : K.In h) (G : h.Ns mainGlobals mg) (c : He.SaysD fa fn K) : Vx.Fx K mg "_law_history" (tp 21) ["_law_draw_here", "_law_shelf_here", "_law_versions"] := by
  obtain ⟨fd, F⟩ := c.def_ 17 (d := D21) rfl
  exact ⟨_, fd, F, F.bindsN fun _ _ _ _ _ _ us hl => match us, hl with | [_, _, _], _ => rfl, He.glo_ok X G (c.fact 17 (f := .glo "_law_history") rfl)⟩
theorem fx__law_values (X : K.In h) (G : h.Ns mainGlobals mg) (c : He.SaysD fa fn K) : Vx.Fx K mg "_law_values" (tp 22) ["_law_history_here", "_law_key"] := by
  obtain ⟨fd, F⟩ := c.def_ 18 (d := D22) rfl
  exact ⟨_, fd, F, F.bindsN fun _ _ _ _ _ _ us hl => match us, hl with | [_, _], _ => rfl, He.glo_ok X G (c.fact 18 (f := .glo "_law_values") rfl)⟩
theorem fx__law_times (X : K.In h) (G : h.Ns mainGlobals mg) (c : He.SaysD fa fn K) : Vx.Fx K mg "_law_times" (tp 23) ["_law_history_here", "_law_key", "_law_version"] := by
  obtain ⟨fd, F⟩ := c.def_ 19 (d := D23) rfl
  exact ⟨_, fd, F, F.bindsN fun _ _ _ _ _ _ us hl => match us, hl with | [_, _, _], _ => rfl, He.glo_ok X G (c.fact 19 (f := .glo "_law_times") rfl)⟩
theorem fx__law_told (X : K.In h) (G : h.Ns mainGlobals mg) (c : He.SaysD fa fn K) : Vx.Fx K mg "_law_told" (tp 25) ["_law_draw_here", "_law_shelf_here", "_law_history_here"] := by
  obtain ⟨fd, F⟩ := c.def_ 21 (d := D25) rfl
  exact ⟨_, fd, F, F.bindsN fun _ _ _ _ _ _ us hl => match us, hl with | [_, _, _], _ => rfl, He.glo_ok X G (c.fact 21 (f := .glo "_law_told") rfl)⟩
theorem fx__law_once (X : K.In h) (G : h.Ns mainGlobals mg) (c : He.SaysD fa fn K) : Vx.Fx K mg "_law_once" (tp 26) ["_law_news_here"] := by
  obtain ⟨fd, F⟩ := c.def_ 22 (d := D26) rfl
  exact ⟨_, fd, F, F.bindsN fun _ _ _ _ _ _ us hl => match us, hl with | [_], _ => rfl, He.glo_ok X G (c.fact 22 (f := .glo "_law_once") rfl)⟩
theorem fx__law_news (X : K.In h) (G : h.Ns mainGlobals mg) (c : He.SaysD fa fn K) : Vx.Fx K mg "_law_news" (tp 27) ["_law_draw_here", "_law_shelf_here", "_law_history_here", "_law_most"] := by
  obtain ⟨fd, F⟩ := c.def_ 23 (d := D27) rfl
  exact ⟨_, fd, F, F.bindsN fun _ _ _ _ _ _ us hl => match us, hl with | [_, _, _, _], _ => rfl, He.glo_ok X G (c.fact 23 (f := .glo "_law_news") rfl)⟩
theorem fx__law_wild (X : K.In h) (G : h.Ns mainGlobals mg) (c : He.SaysD fa fn K) : Vx.Fx K mg "_law_wild" (tp 28) ["_law_draw_here", "_law_shelf_here", "_law_versions"] := by
  obtain ⟨fd, F⟩ := c.def_ 24 (d := D28) rfl
  exact ⟨_, fd, F, F.bindsN fun _ _ _ _ _ _ us hl => match us, hl with | [_, _, _], _ => rfl, He.glo_ok X G (c.fact 24 (f := .glo "_law_wild") rfl)⟩
theorem fx__law_head (X : K.In h) (G : h.Ns mainGlobals mg) (c : He.SaysD fa fn K) : Vx.Fx K mg "_law_head" (tp 29) ["_law_news_here"] := by
  obtain ⟨fd, F⟩ := c.def_ 25 (d := D29) rfl
  exact ⟨_, fd, F, F.bindsN fun _ _ _ _ _ _ us hl => match us, hl with | [_], _ => rfl, He.glo_ok X G (c.fact 25 (f := .glo "_law_head") rfl)⟩
theorem fx__law_stretches (X : K.In h) (G : h.Ns mainGlobals mg) (c : He.SaysD fa fn K) : Vx.Fx K mg "_law_stretches" (tp 30) ["_law_shelf_here", "_law_news_here"] := by
  obtain ⟨fd, F⟩ := c.def_ 26 (d := D30) rfl
  exact ⟨_, fd, F, F.bindsN fun _ _ _ _ _ _ us hl => match us, hl with | [_, _], _ => rfl, He.glo_ok X G (c.fact 26 (f := .glo "_law_stretches") rfl)⟩
theorem fx__law_cell (X : K.In h) (G : h.Ns mainGlobals mg) (c : He.SaysD fa fn K) : Vx.Fx K mg "_law_cell" (tp 31) ["_law_news_here", "_law_version", "_law_key"] := by
  obtain ⟨fd, F⟩ := c.def_ 27 (d := D31) rfl
  exact ⟨_, fd, F, F.bindsN fun _ _ _ _ _ _ us hl => match us, hl with | [_, _, _], _ => rfl, He.glo_ok X G (c.fact 27 (f := .glo "_law_cell") rfl)⟩
theorem fx__law_bounds (X : K.In h) (G : h.Ns mainGlobals mg) (c : He.SaysD fa fn K) : Vx.Fx K mg "_law_bounds" (tp 32) ["_law_shelf_here", "_law_news_here", "_law_version"] := by
  obtain ⟨fd, F⟩ := c.def_ 28 (d := D32) rfl
  exact ⟨_, fd, F, F.bindsN fun _ _ _ _ _ _ us hl => match us, hl with | [_, _, _], _ => rfl, He.glo_ok X G (c.fact 28 (f := .glo "_law_bounds") rfl)⟩
theorem fx__law_right (X : K.In h) (G : h.Ns mainGlobals mg) (c : He.SaysD fa fn K) : Vx.Fx K mg "_law_right" (tp 33) ["_law_shelf_here", "_law_news_here", "_law_given"] := by
  obtain ⟨fd, F⟩ := c.def_ 29 (d := D33) rfl
  exact ⟨_, fd, F, F.bindsN fun _ _ _ _ _ _ us hl => match us, hl with | [_, _, _], _ => rfl, He.glo_ok X G (c.fact 29 (f := .glo "_law_right") rfl)⟩
theorem fx__law_clash (X : K.In h) (G : h.Ns mainGlobals mg) (c : He.SaysD fa fn K) : Vx.Fx K mg "_law_clash" (tp 34) ["_law_shelf_here", "_law_news_here"] := by
  obtain ⟨fd, F⟩ := c.def_ 30 (d := D34) rfl
  exact ⟨_, fd, F, F.bindsN fun _ _ _ _ _ _ us hl => match us, hl with | [_, _], _ => rfl, He.glo_ok X G (c.fact 30 (f := .glo "_law_clash") rfl)⟩
theorem fx_law (X : K.In h) (G : h.Ns mainGlobals mg) (c : He.SaysD fa fn K) : Vx.Fx K mg "law" (tp 35) ["_law_script"] := by
  obtain ⟨fd, F⟩ := c.def_ 31 (d := D35) rfl
  exact ⟨_, fd, F, F.bindsN fun _ _ _ _ _ _ us hl => match us, hl with | [_], _ => rfl, He.glo_ok X G (c.fact 31 (f := .glo "law") rfl)⟩
theorem tx (X : K.In h) (G : h.Ns mainGlobals mg) (c : He.SaysD fa fn K) : Vw.Tx K mg where
  x_version_of := fx_version_of X G c
  x_head_of := fx_head_of X G c
  x_numbers_at := fx_numbers_at X G c
  x_bounds := fx_bounds X G c
  x_is_shut := fx_is_shut X G c
  x_is_due := fx_is_due X G c
  x_cell := fx_cell X G c
  x_marks_of := fx_marks_of X G c
  x_stretches_of := fx_stretches_of X G c
  x_stretches := fx_stretches X G c
  x_cells := fx_cells X G c
  x_count_cells := fx_count_cells X G c
  x_is_right := fx_is_right X G c
  x__law_draw := fx__law_draw X G c
  x__law_next := fx__law_next X G c
  x__law_same := fx__law_same X G c
  x__law_shelf := fx__law_shelf X G c
  x__law_history := fx__law_history X G c
  x__law_values := fx__law_values X G c
  x__law_times := fx__law_times X G c
  x__law_told := fx__law_told X G c
  x__law_once := fx__law_once X G c
  x__law_news := fx__law_news X G c
  x__law_wild := fx__law_wild X G c
  x__law_head := fx__law_head X G c
  x__law_stretches := fx__law_stretches X G c
  x__law_cell := fx__law_cell X G c
  x__law_bounds := fx__law_bounds X G c
  x__law_right := fx__law_right X G c
  x__law_clash := fx__law_clash X G c
  x_law := fx_law X G c
  z_len := He.free_ok X G (c.fact 32 (f := .free "len") rfl)
  z_range := He.free_ok X G (c.fact 33 (f := .free "range") rfl)
  z_tuple := He.free_ok X G (c.fact 34 (f := .free "tuple") rfl)
  z_isinstance := He.free_ok X G (c.fact 35 (f := .free "isinstance") rfl)
  z_list := He.free_ok X G (c.fact 36 (f := .free "list") rfl)
  z_int := He.free_ok X G (c.fact 37 (f := .free "int") rfl)
  z_all := He.free_ok X G (c.fact 38 (f := .free "all") rfl)
  z_max := He.free_ok X G (c.fact 39 (f := .free "max") rfl)
  z_abs := He.free_ok X G (c.fact 40 (f := .free "abs") rfl)
  z_sum := He.free_ok X G (c.fact 41 (f := .free "sum") rfl)
  z_str := He.free_ok X G (c.fact 42 (f := .free "str") rfl)
  z_bool := He.free_ok X G (c.fact 43 (f := .free "bool") rfl)
  z_sorted := He.free_ok X G (c.fact 44 (f := .free "sorted") rfl)
end
theorem facts {P : Program} {w : World} {K : PySem.W.Frag} {h : Heap} {mg : Str → Option Value} {f : Addr} (X : K.In h) (G : h.Ns mainGlobals mg) (hfa : mg ("law" : Str) = some (.ref f)) (c : He.SaysD fa fn K) :
    ∃ fd : FuncData, (∀ (s : Shared) (v : Value), BindsTo s fd ⟨[v], []⟩ [("_law_script", v)]) ∧ ∀ base : Heap, K.In base → base.Ns mainGlobals mg → FnOk P w K mg base CX0 (Vw.law_level + 1) f fd ["_law_script"] (Vx.spLaw ⟨K, w⟩) := by
  obtain ⟨fd, F⟩ := c.def_ 31 (d := D35) rfl
  have e := hfa.symm.trans (He.glo_ok X G (c.fact 31 (f := .glo "law") rfl))
  cases e
  have b := FunD.bindsA (ps := ["_law_script"]) F fun _ _ _ _ _ _ us hl => match us, hl with | [_], _ => rfl
  exact ⟨fd, fun s v => b s [v] rfl, fun base _ _ => Vx.law_ok F Vw.sc_law rfl (fun f cdv A outer s H E hr => Vw.body_law (tx X G c) f cdv A outer s H E hr) Vw.e_lawB⟩
end Vh
open PySem PySem.W PySem.Calls PyProof.Rows
theorem PySem.Challenge.cw_suresnap_k04_papers_are_checked_by_count_holds : PySem.Challenge.rw_suresnap_k04_papers_are_checked_by_count.Holds := by
  w_on; o_law
  refine HandSHeadRun.head_any (r := OpenLaw.row PySem.Challenge.rw_suresnap_k04_papers_are_checked_by_count) (q := view (OpenLaw.row PySem.Challenge.rw_suresnap_k04_papers_are_checked_by_count).prog [35]) (H := Vh.hk) (ob := Vh.ob) (M := 4000) (loose := Vh.nm) (d := HandSHeadRun.topDef (OpenLaw.row PySem.Challenge.rw_suresnap_k04_papers_are_checked_by_count).prog 35) (kwd := []) Vh.ob_eq
    (by kernel_rfl) (fun s => by kernel_rfl) Vh.run (by kernel_rfl) (by kernel_rfl) (by kernel_rfl) (by rfl) (by first | assumption | decide +kernel) (by decide +kernel) ⟨rfl, rfl, rfl, rfl, rfl, by decide +kernel⟩ ?hw ?hc
  case hw => w_witness2
  case hc =>
    refine L2.walk_ofE (l := PySem.Challenge.rw_suresnap_k04_papers_are_checked_by_count) (n := 63) (k := Vw.law_level + 1) (x := "_law_script") (CX := L2.CX0) rfl (by decide) (by kernel_rfl) ⟨rfl, by decide, by decide⟩ ?F (fun _ _ _ _ z => z)
    intro w mg fa h Y G hmg0
    obtain ⟨K, KX, c⟩ := Y
    have hmg : mg ("law" : PySem.Str) = some (.ref fa) := by
      have e : (HandSHeadRun.topDef (OpenLaw.row PySem.Challenge.rw_suresnap_k04_papers_are_checked_by_count).prog 35).name = ("law" : PySem.Str) := by kernel_rfl
      rw [← e]
      exact hmg0
    obtain ⟨fd, hb, hF⟩ := Vh.facts (P := (PySem.Challenge.rw_suresnap_k04_papers_are_checked_by_count).prog) (w := w) KX G hmg c
    exact ⟨K, fd, Vx.spLaw ⟨K, w⟩, KX, hb, fun H a ns _ hO hS => Vx.law_sp hO hS, hF⟩
