import PyProof.Rows.All
import KE.KDictKeyed
import HandS.ForExc
import HandS.ForMost
import HandS.CallSlots
import HandS.IsInst
import HandS.Lambda
import HandS.ExcInit
import HandS.ExcValue
import HandS.Nested
import KE.KDictDisplayH
import KE.KDictWalk
import HandS.TupAny
import HandS.Deep
import HandS.Iter
import KE.GoesMore
import KE.GoesEnum
import KE.GoesZip
import HandS.Comp
import HandS.Exc
import HandS.ExcField
import HandS.TryMany
import KE.KExcSuper
import KE.KSuper
import HandS.ForDict
import HandS.Style
import PyProof.NeKinds
import HandS.ExcIs
import KE.KIsAll
import HandS.Dict
import HandS.TupMul
import PyProof.StrOps2
import HandS.OwnEq
import HandS.Codes
import HandS.EndOwn
import HandS.SortOrd
import HandS.SortRule
import HandS.SortInts
import HandS.TupLe
import HandS.More
import KE.KSortTup
import HandS.Keys
import HandS.TupSets
import HandS.Conv
import KE.KDictZip
import HandS.EndTab
import PySem.Challenge.RW_numberwall_k24_whole_lots_of_weights
import KE.BitLaws
section
set_option Elab.async false
set_option autoImplicit false
set_option linter.all false
set_option maxRecDepth 100000
set_option maxHeartbeats 2000000
/-! NyG: dicts whose keys are None, ints, texts and tuples of them in any mix, at the library's level. -/
namespace L2.NW
open PySem PySem.Spec PyProof.Rows
/-- an entry: what the key is, the key, the value -/
abbrev GE := NestedKey × Value × Value
def gAt (xs : List GE) (k : NestedKey) : Option Value := (xs.find? fun x => decide (x.1 = k)).map (·.2.2)
def gSet (k : NestedKey) (v : Value) (x : GE) : GE := if x.1 = k then (x.1, x.2.1, v) else x
def gPut (xs : List GE) (k : NestedKey) (u v : Value) : List GE := if (gAt xs k).isSome then xs.map (gSet k v) else xs ++ [(k, u, v)]
def gEnt (w : World) (x : GE) : DictEntry := ⟨x.1.hash w, x.2.1, x.2.2⟩
def gKey (h : Heap) (k : NestedKey) (u : Value) : Prop := NestedIs h k u ∧ k.depth ≤ 8 ∧ ∀ x, k ≠ .text x
/-- the dict at d holds xs -/
def GDict (w : World) (h : Heap) (d : Addr) (xs : List GE) : Prop :=
  ∃ o es ep, h.get? d = some o ∧ o.ExactDict ∧ o.data = .dict es ep ∧ es.toList = xs.map (gEnt w) ∧ (∀ x ∈ xs, gKey h x.1 x.2.1) ∧ (xs.map (·.1)).Nodup
theorem g_uniq {xs : List GE} (hn : (xs.map (·.1)).Nodup) {i j : Nat} {x y : GE} (hi : xs[i]? = some x) (hj : xs[j]? = some y) (e : x.1 = y.1) : i = j := by
  have a : (xs.map (·.1))[i]? = some x.1 := by rw [List.getElem?_map, hi]; rfl
  have b : (xs.map (·.1))[j]? = some x.1 := by rw [List.getElem?_map, hj, e]; rfl
  exact (List.getElem?_inj (List.getElem?_eq_some_iff.mp a).1 hn).mp (a.trans b.symm)
theorem g_at_of {xs : List GE} (hn : (xs.map (·.1)).Nodup) {i : Nat} {x : GE} (hx : xs[i]? = some x) : gAt xs x.1 = some x.2.2 := by
  induction xs generalizing i with
  | nil => cases hx
  | cons y r ih =>
    rw [List.map_cons, List.nodup_cons] at hn
    cases i with
    | zero =>
      cases hx
      unfold gAt; rw [List.find?_cons_of_pos (by simp)]; rfl
    | succ j =>
      have hx' : r[j]? = some x := by simpa using hx
      have hne : ¬ y.1 = x.1 := fun e => hn.1 (e ▸ List.mem_map.mpr ⟨x, List.mem_of_getElem? hx', rfl⟩)
      have := ih hn.2 hx'
      unfold gAt at this ⊢
      rw [List.find?_cons_of_neg (by simpa using hne)]; exact this
theorem g_at_none {xs : List GE} {k : NestedKey} (h : ∀ (j : Nat) (x : GE), xs[j]? = some x → x.1 ≠ k) : gAt xs k = none := by
  unfold gAt
  rw [Option.map_eq_none_iff, List.find?_eq_none]
  intro x hx e
  obtain ⟨j, hj⟩ := List.mem_iff_getElem?.mp hx
  exact h j x hj (of_decide_eq_true e)
theorem g_set_out {k : NestedKey} {v : Value} : ∀ {xs : List GE}, k ∉ xs.map (·.1) → xs.map (gSet k v) = xs
  | [], _ => rfl
  | x :: xs, h => by
    rw [List.map_cons, List.mem_cons, not_or] at h
    rw [List.map_cons, g_set_out h.2, gSet, if_neg (fun e => h.1 e.symm)]
theorem g_keys_set (k : NestedKey) (v : Value) (xs : List GE) : (xs.map (gSet k v)).map (·.1) = xs.map (·.1) := by
  rw [List.map_map]
  refine List.map_congr_left fun x _ => ?_
  show (gSet k v x).1 = x.1
  unfold gSet
  split <;> rfl
theorem g_modify {w : World} {v : Value} : ∀ {xs : List GE} {j : Nat} {x : GE}, (xs.map (·.1)).Nodup → xs[j]? = some x → (xs.map (gEnt w)).modify j (fun e => { e with val := v }) = (xs.map (gSet x.1 v)).map (gEnt w)
  | [], _, _, _, h => by cases h
  | y :: r, 0, x, hn, h => by
    cases h
    rw [List.map_cons, List.nodup_cons] at hn
    rw [List.map_cons, List.map_cons, g_set_out hn.1, List.map_cons]
    unfold gSet
    rw [if_pos rfl]
    rfl
  | y :: r, j + 1, x, hn, h => by
    rw [List.map_cons, List.nodup_cons] at hn
    have h' : r[j]? = some x := by simpa using h
    have hne : ¬ y.1 = x.1 := fun e => hn.1 (e ▸ List.mem_map.mpr ⟨x, List.mem_of_getElem? h', rfl⟩)
    have ih := g_modify (w := w) (v := v) hn.2 h'
    rw [List.map_cons, List.map_cons, List.map_cons]
    show gEnt w y :: (r.map (gEnt w)).modify j _ = _
    rw [ih]
    congr 2
    unfold gSet; rw [if_neg hne]
section
variable {prog : Program} {w : World} {A : Around} {E : Value → Shared → Prop} {s : Shared} {d : Addr} {u : Value} {k : NestedKey} {xs : List GE} {o : Obj} {es : Array DictEntry} {ep : Nat}
theorem g_entry (he : es.toList = xs.map (gEnt w)) (j : Nat) : es[j]? = (xs[j]?).map (gEnt w) := by
  rw [← Array.getElem?_toList, he, List.getElem?_map]
theorem g_size (he : es.toList = xs.map (gEnt w)) : es.size = xs.length := by
  rw [← Array.length_toList, he, List.length_map]
theorem g_quiet {stored : List Value} {Q : Bool → Shared → Prop} (hk : gKey s.heap k u) (hst : ∀ v ∈ stored, ∃ k', gKey s.heap k' v) (h : Q false s) : wpAny (model prog w) A (tableMayTell u stored) Q E s := by
  unfold tableMayTell
  split
  · exact wpAny_pure h
  refine wpAny_bind (quiet_key (prog := prog) (w := w) k u 8 s hk.1 hk.2.1 A E _ ?_)
  rw [if_neg (by simp)]
  refine wpAny_bind (wpAny_forIn_list _ (fun r b s' => s' = s ∧ b = (none, ()) ∧ ∀ v ∈ r, ∃ k', gKey s.heap k' v) _ ?_ ?_ _ _ ⟨rfl, rfl, hst⟩)
  · rintro x r b s' ⟨rfl, rfl, hr⟩
    obtain ⟨k', hb⟩ := hr x (List.mem_cons_self ..)
    refine wpAny_bind (quiet_key (prog := prog) (w := w) k' x 8 s' hb.1 hb.2.1 A E _ ?_)
    rw [if_neg (by simp)]
    exact wpAny_pure ⟨rfl, rfl, fun v hv => hr v (List.mem_cons_of_mem _ hv)⟩
  · rintro b s' ⟨rfl, rfl, _⟩
    exact wpAny_pure h
/-- how far a look-up's walk is, and what it met -/
def gMet (xs : List GE) (k : NestedKey) (i : Nat) (hit : Option Nat) : Prop := (hit = none ∧ ∀ (j : Nat) (x : GE), j < i → xs[j]? = some x → x.1 ≠ k) ∨ ∃ (j : Nat) (x : GE), hit = some j ∧ j < i ∧ xs[j]? = some x ∧ x.1 = k
theorem g_find {Q : Option Nat → Shared → Prop} (hu : A.units + 8 < cLine) (hk : gKey s.heap k u) (ho : s.heap.get? d = some o) (hd : o.data = .dict es ep) (he : es.toList = xs.map (gEnt w)) (his : ∀ x ∈ xs, gKey s.heap x.1 x.2.1) (hn : (xs.map (·.1)).Nodup)
    (h0 : (∀ (j : Nat) (x : GE), xs[j]? = some x → x.1 ≠ k) → Q none s) (h1 : ∀ (j : Nat) (x : GE), xs[j]? = some x → x.1 = k → Q (some j) s) : wpAny (model prog w) A (dictFind d u (k.hash w)) Q E s := by
  have hsz := g_size he
  have eqB : ∀ {x : GE} {Q' : Bool → Shared → Prop}, gKey s.heap x.1 x.2.1 → Q' (decide (x.1 = k)) s → wpAny (model prog w) A (eqBool x.2.1 u) Q' E s := fun {x Q'} hx q =>
    eqAt_key x.1 k A s _ _ hx.1 hk.1 (by have := hk.2.1; omega) prog w E Q' (by rw [← NestedKey.decide_eq]; exact q)
  have hash_at : ∀ (j : Nat) (x : GE), xs[j]? = some x → x.1 = k → ((es[j]?.map (·.hash)) == some (k.hash w)) = true := fun j x hj e => by
    rw [g_entry he j, hj]; subst e; simp [gEnt]
  have stored_key : ∀ v ∈ (placesWithHash es.size (fun i => es[i]?.map (·.hash)) (k.hash w)).filterMap (fun i => es[i]?.map (·.key)), ∃ k', gKey s.heap k' v := fun v hv => by
    obtain ⟨i, _, hi⟩ := List.mem_filterMap.mp hv
    rw [g_entry he i] at hi
    cases e : xs[i]? with
    | none => rw [e] at hi; cases hi
    | some x =>
      rw [e] at hi
      cases hi
      exact ⟨x.1, his x (List.mem_of_getElem? e)⟩
  -- one place of the walk
  have skip : ∀ {i x : Nat} {hit : Option Nat}, gMet xs k i hit → (∀ j, i ≤ j → j < x → ((es[j]?.map (·.hash)) == some (k.hash w)) = false) → i ≤ x → gMet xs k x hit := fun {i x hit} m hs hix => by
    rcases m with ⟨e, m⟩ | ⟨j, y, e, a, b, c⟩
    · refine .inl ⟨e, fun j (y : GE) hj hy hyk => ?_⟩
      by_cases hji : j < i
      · exact m j y hji hy hyk
      · have := hs j (by omega) hj
        rw [hash_at j y hy hyk] at this
        cases this
    · exact .inr ⟨j, y, e, by omega, b, c⟩
  have past : ∀ {x : Nat} {hit : Option Nat} {y : GE}, gMet xs k x hit → xs[x]? = some y → ¬ y.1 = k → gMet xs k (x + 1) hit := fun {x hit y} m hy hne => by
    rcases m with ⟨e, m⟩ | ⟨j, z, e, a, b, c⟩
    · refine .inl ⟨e, fun j z hj hz hzk => ?_⟩
      by_cases hjx : j < x
      · exact m j z hjx hz hzk
      · have : j = x := by omega
        subst this
        rw [hy] at hz; cases hz
        exact hne hzk
    · exact .inr ⟨j, z, e, by omega, b, c⟩
  have fin : ∀ {i : Nat} {hit : Option Nat}, gMet xs k i hit → (List.range' i (es.size - i)).filter (fun i => (es[i]?.map (·.hash)) == some (k.hash w)) = [] → i ≤ es.size → Q hit s := fun {i hit} m hr hi => by
    have m2 := skip (x := es.size) m (fun j a b => by
      have := List.filter_eq_nil_iff.mp hr j (List.mem_range'_1.mpr ⟨a, by omega⟩)
      simpa using this) hi
    rcases m2 with ⟨rfl, m2⟩ | ⟨j, y, rfl, _, b, c⟩
    · exact h0 fun j x hj => m2 j x (by rw [hsz]; exact (List.getElem?_eq_some_iff.mp hj).1) hj
    · exact h1 j y b c
  have plain : wpAny (model prog w) A (dictWalkPlain d u (k.hash w) es (placesWithHash es.size (fun i => es[i]?.map (·.hash)) (k.hash w))) Q E s := by
    refine wpAny_bind (wpAny_forIn_list _ (fun r b s' => s' = s ∧ b = (none, ()) ∧ ∃ i, r = (List.range' i (es.size - i)).filter (fun i => (es[i]?.map (·.hash)) == some (k.hash w)) ∧ i ≤ es.size ∧ gMet xs k i none) _ ?_ ?_ _ _
      ⟨rfl, rfl, 0, by rw [placesWithHash, List.range_eq_range', Nat.sub_zero], Nat.zero_le _, .inl ⟨rfl, fun _ _ h => absurd h (Nat.not_lt_zero _)⟩⟩)
    · rintro x r b s' ⟨rfl, rfl, i, hr, hi, m⟩
      obtain ⟨hix, hxn, hpx, hskip, hrest⟩ := filter_range'_cons _ _ _ _ _ hr.symm
      have hlt : x < es.size := by omega
      obtain ⟨y, hy⟩ : ∃ y, xs[x]? = some y := ⟨_, List.getElem?_eq_getElem (by rw [← hsz]; exact hlt)⟩
      have m1 := skip m (fun j a b => hskip j a b) hix
      have hr2 : r = (List.range' (x + 1) (es.size - (x + 1))).filter (fun i => (es[i]?.map (·.hash)) == some (k.hash w)) := by rw [hrest]; congr 2; omega
      have hex : es[x]? = some (gEnt w y) := by rw [g_entry he x, hy]; rfl
      simp only [hex]
      by_cases hh : ((gEnt w y).hash == k.hash w) = true
      · rw [if_pos hh]
        refine wpAny_bind (wpAny_dictEpoch ho hd (wpAny_bind (eqB (his y (List.mem_of_getElem? hy)) (wpAny_bind (wpAny_dictEpoch ho hd ?_)))))
        show wpAny _ _ (if (ep != ep) = true then _ else _) _ E _
        rw [if_neg (by simp)]
        by_cases hyk : y.1 = k
        · rw [decide_eq_true hyk]
          first | rw [if_pos rfl] | skip
          first
            | exact wpAny_bind (wpAny_rule (wpAny_pure (wpAny_pure (h1 x y hy hyk))))
            | exact wpAny_bind (wpAny_bind (wpAny_rule (wpAny_pure (wpAny_pure (h1 x y hy hyk)))))
            | exact wpAny_rule (wpAny_pure (wpAny_pure (h1 x y hy hyk)))
        · rw [decide_eq_false hyk]
          first | rw [if_neg Bool.false_ne_true] | skip
          first
            | exact wpAny_bind (wpAny_rule (wpAny_pure ⟨rfl, rfl, x + 1, hr2, hlt, past m1 hy hyk⟩))
            | exact wpAny_bind (wpAny_pure (wpAny_bind (wpAny_rule (wpAny_pure ⟨rfl, rfl, x + 1, hr2, hlt, past m1 hy hyk⟩))))
      · rw [if_neg hh]
        refine wpAny_pure ⟨rfl, rfl, x + 1, hr2, hlt, past m1 hy fun e => hh (by subst e; simp [gEnt])⟩
    · rintro b s' ⟨rfl, rfl, i, hr, hi, m⟩
      exact wpAny_pure (fin m hr.symm hi)
  unfold dictFind
  try with_reducible refine wpAny_holding ?_
  refine wpAny_bind (wpAny_dictEntries ho hd ?_)
  obtain ⟨hk1, hk2, hk3⟩ := id hk
  cases hk1 with
  | none =>
    dsimp only
    by_cases hall : ((Value.none :: (placesWithHash es.size (fun i => es[i]?.map (·.hash)) (NestedKey.hash w .none)).filterMap (fun i => es[i]?.map (·.key))).all carriedByValue) = true
    · rw [if_pos hall]
      exact plain
    rw [if_neg hall]
    by_cases hone : (((placesWithHash es.size (fun i => es[i]?.map (·.hash)) (NestedKey.hash w .none)).filterMap (fun i => es[i]?.map (·.key))) == [Value.none]) = true <;>
    (first | rw [if_pos hone] | rw [if_neg hone]) <;> (first | refine wpAny_bind (wpAny_pure ?_) | refine wpAny_bind (g_quiet hk stored_key ?_)) <;> (
      rw [if_neg (by simp)]
      refine wpAny_bind (wpAny_forIn_list _ (fun r b s' => s' = s ∧ ∃ i hit, b = (none, hit) ∧ r = (List.range' i (es.size - i)).filter (fun i => (es[i]?.map (·.hash)) == some (NestedKey.hash w .none)) ∧ i ≤ es.size ∧ gMet xs .none i hit) _ ?_ ?_ _ _
        ⟨rfl, 0, none, rfl, by rw [placesWithHash, List.range_eq_range', Nat.sub_zero], Nat.zero_le _, .inl ⟨rfl, fun _ _ h => absurd h (Nat.not_lt_zero _)⟩⟩)
      · rintro x r b s' ⟨rfl, i, hit, rfl, hr, hi, m⟩
        obtain ⟨hix, hxn, hpx, hskip, hrest⟩ := filter_range'_cons _ _ _ _ _ hr.symm
        have hlt : x < es.size := by omega
        obtain ⟨y, hy⟩ : ∃ y, xs[x]? = some y := ⟨_, List.getElem?_eq_getElem (by rw [← hsz]; exact hlt)⟩
        have m1 := skip m (fun j a b => hskip j a b) hix
        have hr2 : r = (List.range' (x + 1) (es.size - (x + 1))).filter (fun i => (es[i]?.map (·.hash)) == some (NestedKey.hash w .none)) := by rw [hrest]; congr 2; omega
        have hex : es[x]? = some (gEnt w y) := by rw [g_entry he x, hy]; rfl
        rw [hex]
        dsimp only
        by_cases hh : ((gEnt w y).hash == NestedKey.hash w .none) = true
        · rw [if_pos hh]
          refine wpAny_bind (wpAny_dictEpoch ho hd (wpAny_bind (eqB (his y (List.mem_of_getElem? hy)) (wpAny_bind (wpAny_dictEpoch ho hd ?_)))))
          show wpAny _ _ (if (ep != ep) = true then _ else _) _ E _
          rw [if_neg (by simp)]
          by_cases hyk : y.1 = .none
          · rw [decide_eq_true hyk]
            rcases m1 with ⟨rfl, m1⟩ | ⟨j, z, _, hjx, hj, hzk⟩
            · first | rw [if_pos rfl] | skip
              simp only [Option.isSome_none, Bool.false_eq_true, if_false]
              first | refine wpAny_bind (wpAny_pure ?_) | skip
              refine wpAny_bind (wpAny_rule ?_)
              split
              · exact wpAny_pure (wpAny_pure (h1 x y hy hyk))
              · exact wpAny_pure ⟨rfl, x + 1, some x, rfl, hr2, hlt, .inr ⟨x, y, rfl, Nat.lt_succ_self x, hy, hyk⟩⟩
            · exact absurd (g_uniq hn hj hy (hzk.trans hyk.symm)) (by omega)
          · rw [decide_eq_false hyk]
            simp only [Bool.false_eq_true, if_false]
            refine wpAny_bind (wpAny_rule ?_)
            first | rw [if_neg (by simp)] | skip
            first
              | exact wpAny_pure ⟨rfl, x + 1, hit, rfl, hr2, hlt, past m1 hy hyk⟩
              | exact wpAny_bind (wpAny_pure (wpAny_pure ⟨rfl, x + 1, hit, rfl, hr2, hlt, past m1 hy hyk⟩))
        · rw [if_neg hh]
          exact wpAny_pure ⟨rfl, x + 1, hit, rfl, hr2, hlt, past m1 hy fun e => hh (by rw [← e]; simp [gEnt])⟩
      · rintro b s' ⟨rfl, i, hit, rfl, hr, hi, m⟩
        have q := fin m hr.symm hi
        cases hit <;> exact wpAny_pure q)
  | @bool b iz e =>
    dsimp only
    by_cases hall : ((Value.bool b :: (placesWithHash es.size (fun i => es[i]?.map (·.hash)) (NestedKey.hash w (.num iz))).filterMap (fun i => es[i]?.map (·.key))).all carriedByValue) = true
    · rw [if_pos hall]
      exact plain
    rw [if_neg hall]
    by_cases hone : (((placesWithHash es.size (fun i => es[i]?.map (·.hash)) (NestedKey.hash w (.num iz))).filterMap (fun i => es[i]?.map (·.key))) == [Value.bool b]) = true <;>
    (first | rw [if_pos hone] | rw [if_neg hone]) <;> (first | refine wpAny_bind (wpAny_pure ?_) | refine wpAny_bind (g_quiet hk stored_key ?_)) <;> (
      rw [if_neg (by simp)]
      refine wpAny_bind (wpAny_forIn_list _ (fun r b s' => s' = s ∧ ∃ i hit, b = (none, hit) ∧ r = (List.range' i (es.size - i)).filter (fun i => (es[i]?.map (·.hash)) == some (NestedKey.hash w (.num iz))) ∧ i ≤ es.size ∧ gMet xs (.num iz) i hit) _ ?_ ?_ _ _
        ⟨rfl, 0, none, rfl, by rw [placesWithHash, List.range_eq_range', Nat.sub_zero], Nat.zero_le _, .inl ⟨rfl, fun _ _ h => absurd h (Nat.not_lt_zero _)⟩⟩)
      · rintro x r b s' ⟨rfl, i, hit, rfl, hr, hi, m⟩
        obtain ⟨hix, hxn, hpx, hskip, hrest⟩ := filter_range'_cons _ _ _ _ _ hr.symm
        have hlt : x < es.size := by omega
        obtain ⟨y, hy⟩ : ∃ y, xs[x]? = some y := ⟨_, List.getElem?_eq_getElem (by rw [← hsz]; exact hlt)⟩
        have m1 := skip m (fun j a b => hskip j a b) hix
        have hr2 : r = (List.range' (x + 1) (es.size - (x + 1))).filter (fun i => (es[i]?.map (·.hash)) == some (NestedKey.hash w (.num iz))) := by rw [hrest]; congr 2; omega
        have hex : es[x]? = some (gEnt w y) := by rw [g_entry he x, hy]; rfl
        rw [hex]
        dsimp only
        by_cases hh : ((gEnt w y).hash == NestedKey.hash w (.num iz)) = true
        · rw [if_pos hh]
          refine wpAny_bind (wpAny_dictEpoch ho hd (wpAny_bind (eqB (his y (List.mem_of_getElem? hy)) (wpAny_bind (wpAny_dictEpoch ho hd ?_)))))
          show wpAny _ _ (if (ep != ep) = true then _ else _) _ E _
          rw [if_neg (by simp)]
          by_cases hyk : y.1 = (.num iz)
          · rw [decide_eq_true hyk]
            rcases m1 with ⟨rfl, m1⟩ | ⟨j, z, _, hjx, hj, hzk⟩
            · first | rw [if_pos rfl] | skip
              simp only [Option.isSome_none, Bool.false_eq_true, if_false]
              first | refine wpAny_bind (wpAny_pure ?_) | skip
              refine wpAny_bind (wpAny_rule ?_)
              split
              · exact wpAny_pure (wpAny_pure (h1 x y hy hyk))
              · exact wpAny_pure ⟨rfl, x + 1, some x, rfl, hr2, hlt, .inr ⟨x, y, rfl, Nat.lt_succ_self x, hy, hyk⟩⟩
            · exact absurd (g_uniq hn hj hy (hzk.trans hyk.symm)) (by omega)
          · rw [decide_eq_false hyk]
            simp only [Bool.false_eq_true, if_false]
            refine wpAny_bind (wpAny_rule ?_)
            first | rw [if_neg (by simp)] | skip
            first
              | exact wpAny_pure ⟨rfl, x + 1, hit, rfl, hr2, hlt, past m1 hy hyk⟩
              | exact wpAny_bind (wpAny_pure (wpAny_pure ⟨rfl, x + 1, hit, rfl, hr2, hlt, past m1 hy hyk⟩))
        · rw [if_neg hh]
          exact wpAny_pure ⟨rfl, x + 1, hit, rfl, hr2, hlt, past m1 hy fun e => hh (by rw [← e]; simp [gEnt])⟩
      · rintro b s' ⟨rfl, i, hit, rfl, hr, hi, m⟩
        have q := fin m hr.symm hi
        cases hit <;> exact wpAny_pure q)
  | int iz t =>
    dsimp only
    by_cases hall : ((Value.int iz t :: (placesWithHash es.size (fun i => es[i]?.map (·.hash)) (NestedKey.hash w (.num iz))).filterMap (fun i => es[i]?.map (·.key))).all carriedByValue) = true
    · rw [if_pos hall]
      exact plain
    rw [if_neg hall]
    by_cases hone : (((placesWithHash es.size (fun i => es[i]?.map (·.hash)) (NestedKey.hash w (.num iz))).filterMap (fun i => es[i]?.map (·.key))) == [Value.int iz t]) = true <;>
    (first | rw [if_pos hone] | rw [if_neg hone]) <;> (first | refine wpAny_bind (wpAny_pure ?_) | refine wpAny_bind (g_quiet hk stored_key ?_)) <;> (
      rw [if_neg (by simp)]
      refine wpAny_bind (wpAny_forIn_list _ (fun r b s' => s' = s ∧ ∃ i hit, b = (none, hit) ∧ r = (List.range' i (es.size - i)).filter (fun i => (es[i]?.map (·.hash)) == some (NestedKey.hash w (.num iz))) ∧ i ≤ es.size ∧ gMet xs (.num iz) i hit) _ ?_ ?_ _ _
        ⟨rfl, 0, none, rfl, by rw [placesWithHash, List.range_eq_range', Nat.sub_zero], Nat.zero_le _, .inl ⟨rfl, fun _ _ h => absurd h (Nat.not_lt_zero _)⟩⟩)
      · rintro x r b s' ⟨rfl, i, hit, rfl, hr, hi, m⟩
        obtain ⟨hix, hxn, hpx, hskip, hrest⟩ := filter_range'_cons _ _ _ _ _ hr.symm
        have hlt : x < es.size := by omega
        obtain ⟨y, hy⟩ : ∃ y, xs[x]? = some y := ⟨_, List.getElem?_eq_getElem (by rw [← hsz]; exact hlt)⟩
        have m1 := skip m (fun j a b => hskip j a b) hix
        have hr2 : r = (List.range' (x + 1) (es.size - (x + 1))).filter (fun i => (es[i]?.map (·.hash)) == some (NestedKey.hash w (.num iz))) := by rw [hrest]; congr 2; omega
        have hex : es[x]? = some (gEnt w y) := by rw [g_entry he x, hy]; rfl
        rw [hex]
        dsimp only
        by_cases hh : ((gEnt w y).hash == NestedKey.hash w (.num iz)) = true
        · rw [if_pos hh]
          refine wpAny_bind (wpAny_dictEpoch ho hd (wpAny_bind (eqB (his y (List.mem_of_getElem? hy)) (wpAny_bind (wpAny_dictEpoch ho hd ?_)))))
          show wpAny _ _ (if (ep != ep) = true then _ else _) _ E _
          rw [if_neg (by simp)]
          by_cases hyk : y.1 = (.num iz)
          · rw [decide_eq_true hyk]
            rcases m1 with ⟨rfl, m1⟩ | ⟨j, z, _, hjx, hj, hzk⟩
            · first | rw [if_pos rfl] | skip
              simp only [Option.isSome_none, Bool.false_eq_true, if_false]
              first | refine wpAny_bind (wpAny_pure ?_) | skip
              refine wpAny_bind (wpAny_rule ?_)
              split
              · exact wpAny_pure (wpAny_pure (h1 x y hy hyk))
              · exact wpAny_pure ⟨rfl, x + 1, some x, rfl, hr2, hlt, .inr ⟨x, y, rfl, Nat.lt_succ_self x, hy, hyk⟩⟩
            · exact absurd (g_uniq hn hj hy (hzk.trans hyk.symm)) (by omega)
          · rw [decide_eq_false hyk]
            simp only [Bool.false_eq_true, if_false]
            refine wpAny_bind (wpAny_rule ?_)
            first | rw [if_neg (by simp)] | skip
            first
              | exact wpAny_pure ⟨rfl, x + 1, hit, rfl, hr2, hlt, past m1 hy hyk⟩
              | exact wpAny_bind (wpAny_pure (wpAny_pure ⟨rfl, x + 1, hit, rfl, hr2, hlt, past m1 hy hyk⟩))
        · rw [if_neg hh]
          exact wpAny_pure ⟨rfl, x + 1, hit, rfl, hr2, hlt, past m1 hy fun e => hh (by rw [← e]; simp [gEnt])⟩
      · rintro b s' ⟨rfl, i, hit, rfl, hr, hi, m⟩
        have q := fin m hr.symm hi
        cases hit <;> exact wpAny_pure q)
  | text x t => exact absurd rfl (hk3 x)
  | @tup a oo vs n ks g1 g2 g3 g4 =>
    dsimp only
    rw [if_neg (by simp [carriedByValue])]
    rw [if_neg (by
      rw [← Array.any_toList, List.any_eq_true]
      rintro ⟨e, hin, hc⟩
      rw [he] at hin
      obtain ⟨x, hx, rfl⟩ := List.mem_map.mp hin
      simp only [gEnt, Bool.and_eq_true, beq_iff_eq, bne_iff_ne, ne_eq] at hc
      have hx1 := (his x hx).1
      rw [hc.1] at hx1
      exact hc.2 (by rw [NestedIs.inj _ _ _ hx1 hk.1]))]
    by_cases hone : (((placesWithHash es.size (fun i => es[i]?.map (·.hash)) (NestedKey.hash w (.tup ks))).filterMap (fun i => es[i]?.map (·.key))) == [Value.ref a]) = true <;>
    (first | rw [if_pos hone] | rw [if_neg hone]) <;> (first | refine wpAny_bind (wpAny_pure ?_) | refine wpAny_bind (g_quiet hk stored_key ?_)) <;> (
      rw [if_neg (by simp)]
      refine wpAny_bind (wpAny_forIn_list _ (fun r b s' => s' = s ∧ ∃ i hit, b = (none, hit) ∧ r = (List.range' i (es.size - i)).filter (fun i => (es[i]?.map (·.hash)) == some (NestedKey.hash w (.tup ks))) ∧ i ≤ es.size ∧ gMet xs (.tup ks) i hit) _ ?_ ?_ _ _
        ⟨rfl, 0, none, rfl, by rw [placesWithHash, List.range_eq_range', Nat.sub_zero], Nat.zero_le _, .inl ⟨rfl, fun _ _ h => absurd h (Nat.not_lt_zero _)⟩⟩)
      · rintro x r b s' ⟨rfl, i, hit, rfl, hr, hi, m⟩
        obtain ⟨hix, hxn, hpx, hskip, hrest⟩ := filter_range'_cons _ _ _ _ _ hr.symm
        have hlt : x < es.size := by omega
        obtain ⟨y, hy⟩ : ∃ y, xs[x]? = some y := ⟨_, List.getElem?_eq_getElem (by rw [← hsz]; exact hlt)⟩
        have m1 := skip m (fun j a b => hskip j a b) hix
        have hr2 : r = (List.range' (x + 1) (es.size - (x + 1))).filter (fun i => (es[i]?.map (·.hash)) == some (NestedKey.hash w (.tup ks))) := by rw [hrest]; congr 2; omega
        have hex : es[x]? = some (gEnt w y) := by rw [g_entry he x, hy]; rfl
        rw [hex]
        dsimp only
        by_cases hh : ((gEnt w y).hash == NestedKey.hash w (.tup ks)) = true
        · rw [if_pos hh]
          refine wpAny_bind (wpAny_dictEpoch ho hd (wpAny_bind (eqB (his y (List.mem_of_getElem? hy)) (wpAny_bind (wpAny_dictEpoch ho hd ?_)))))
          show wpAny _ _ (if (ep != ep) = true then _ else _) _ E _
          rw [if_neg (by simp)]
          by_cases hyk : y.1 = (.tup ks)
          · rw [decide_eq_true hyk]
            rcases m1 with ⟨rfl, m1⟩ | ⟨j, z, _, hjx, hj, hzk⟩
            · first | rw [if_pos rfl] | skip
              simp only [Option.isSome_none, Bool.false_eq_true, if_false]
              first | refine wpAny_bind (wpAny_pure ?_) | skip
              refine wpAny_bind (wpAny_rule ?_)
              split
              · exact wpAny_pure (wpAny_pure (h1 x y hy hyk))
              · exact wpAny_pure ⟨rfl, x + 1, some x, rfl, hr2, hlt, .inr ⟨x, y, rfl, Nat.lt_succ_self x, hy, hyk⟩⟩
            · exact absurd (g_uniq hn hj hy (hzk.trans hyk.symm)) (by omega)
          · rw [decide_eq_false hyk]
            simp only [Bool.false_eq_true, if_false]
            refine wpAny_bind (wpAny_rule ?_)
            first | rw [if_neg (by simp)] | skip
            first
              | exact wpAny_pure ⟨rfl, x + 1, hit, rfl, hr2, hlt, past m1 hy hyk⟩
              | exact wpAny_bind (wpAny_pure (wpAny_pure ⟨rfl, x + 1, hit, rfl, hr2, hlt, past m1 hy hyk⟩))
        · rw [if_neg hh]
          exact wpAny_pure ⟨rfl, x + 1, hit, rfl, hr2, hlt, past m1 hy fun e => hh (by rw [← e]; simp [gEnt])⟩
      · rintro b s' ⟨rfl, i, hit, rfl, hr, hi, m⟩
        have q := fin m hr.symm hi
        cases hit <;> exact wpAny_pure q)
theorem g_keep {h h' : Heap} {d : Addr} {o : Obj} {es : Array DictEntry} {ep : Nat} {k : NestedKey} {u : Value} (x : gKey h k u) (ho : h.get? d = some o) (hd : o.data = .dict es ep) (sb : Heap.SameBut d h h') : gKey h' k u :=
  ⟨NestedIs.at (fun b ob vs n hb hc => (sb.2 b fun e => by subst e; rw [ho] at hb; cases hb; rw [hd] at hc; cases hc).trans hb) k _ x.1, x.2⟩
/-- what stands in the dict's object -/
structure Obs (w : World) (h : Heap) (d : Addr) (xs : List GE) (o : Obj) (es : Array DictEntry) (ep : Nat) : Prop where
  get : h.get? d = some o
  exact : o.ExactDict
  data : o.data = .dict es ep
  row : es.toList = xs.map (gEnt w)
  keys : ∀ x ∈ xs, gKey h x.1 x.2.1
  once : (xs.map (·.1)).Nodup
theorem Obs.put {h h' : Heap} {o o' : Obj} {es es' : Array DictEntry} {ep ep' : Nat} {ys : List GE} (b : Obs w h d xs o es ep) (kp : Heap.SameBut d h h') (g : h'.get? d = some o') (c : o'.ExactDict) (dt : o'.data = .dict es' ep') (r : es'.toList = ys.map (gEnt w)) (n : (ys.map (·.1)).Nodup)
    (all : ∀ y ∈ ys, ∃ x, gKey h x y.2.1 ∧ x = y.1) : GDict w h' d ys :=
  ⟨o', es', ep', g, c, dt, r, fun y hy => by obtain ⟨x, hx, rfl⟩ := all y hy; exact g_keep hx b.get b.data kp, n⟩
theorem g_hash {Q : Int → Shared → Prop} (hu : A.units + 8 < cLine) (hk : gKey s.heap k u) (q : Q (k.hash w) { s with toks := s.toks + k.draws }) : wpAny (model prog w) A (pyHash u) Q E s :=
  pyHash_key k u A s _ hk.1 (Nat.lt_of_le_of_lt (Nat.add_le_add_left hk.2.1 _) hu) q
/-- a key is looked for: it is not there, or it stands at one place -/
theorem g_place {α : Type} {f : Option Nat → Sem α} {Q : α → Shared → Prop} (hu : A.units + 8 < cLine) (hk : gKey s.heap k u) (hm : GDict w s.heap d xs)
    (out : ∀ o es ep, Obs w s.heap d xs o es ep → gAt xs k = none → k ∉ xs.map (·.1) → wpAny (model prog w) A (f none) Q E s)
    (at_ : ∀ o es ep j x, Obs w s.heap d xs o es ep → xs[j]? = some x → x.1 = k → gAt xs k = some x.2.2 → wpAny (model prog w) A (f (some j)) Q E s) : wpAny (model prog w) A (dictFind d u (k.hash w) >>= f) Q E s := by
  have ⟨o, es, ep, b1, b2, b3, b4, b5, b6⟩ := hm
  have B : Obs w s.heap d xs o es ep := ⟨b1, b2, b3, b4, b5, b6⟩
  refine wpAny_bind (g_find hu hk b1 b3 b4 b5 b6 (fun no => out o es ep B (g_at_none no) fun z => ?_) fun j x hj e => at_ o es ep j x B hj e (e ▸ g_at_of b6 hj))
  obtain ⟨x, hx, rfl⟩ := List.mem_map.mp z
  obtain ⟨j, hj⟩ := List.mem_iff_getElem?.mp hx
  exact no j x hj rfl
/-- the value at a place -/
theorem g_read {o : Obj} {es : Array DictEntry} {ep j : Nat} {x : GE} {part : Option Value} {Q : Array DictEntry → Shared → Prop} {t : Shared} (B : Obs w t.heap d xs o es ep) (hj : xs[j]? = some x) (q : es[j]? = some (gEnt w x) → Q es t) : wpAny (model prog w) A (dictEntries d part) Q E t :=
  wpAny_dictEntries B.get B.data (q (by rw [g_entry B.row j, hj]; rfl))
/-- a new key at the end -/
theorem g_push {o : Obj} {es : Array DictEntry} {ep : Nat} {v : Value} {part : Option Value} {Q : Unit → Shared → Prop} {t : Shared} (B : Obs w t.heap d xs o es ep) (hk : gKey t.heap k u) (no : gAt xs k = none) (out : k ∉ xs.map (·.1)) (hz : xs.length ≤ sizeLine)
    (q : ∀ h', GDict w h' d (gPut xs k u v) → Heap.SameBut d t.heap h' → Q () { t with heap := h' }) : wpAny (model prog w) A (updateDictKeys d (·.push ⟨k.hash w, u, v⟩) part) Q E t := by
  have few : es.size ≤ sizeLine := by rw [g_size B.row]; exact hz
  have put : gPut xs k u v = xs ++ [(k, u, v)] := by simp [gPut, no]
  refine wpAny_updateDictKeys (hz := few) B.get B.data (q _ ?_ (Heap.SameBut.update ..))
  rw [put]
  refine B.put (Heap.SameBut.update ..) (Heap.get?_update_self _ B.get (Obj.isFreed_of_dict (Obj.data_mapDictKeys B.data _))) (B.exact.mapDictKeys _) (Obj.data_mapDictKeys B.data _) (by simp [B.row, gEnt]) ?_ ?_
  · simpa [List.nodup_append, B.once] using fun a x y hm e => out (List.mem_map.mpr ⟨(a, x, y), hm, e⟩)
  · intro y hy
    rcases List.mem_append.mp hy with hy | hy
    · exact ⟨y.1, B.keys y hy, rfl⟩
    · cases List.mem_singleton.mp hy; exact ⟨k, hk, rfl⟩
/-- another value at a place -/
theorem g_over {o : Obj} {es : Array DictEntry} {ep j : Nat} {x : GE} {v : Value} {part : Option Value} {Q : Unit → Shared → Prop} {t : Shared} (B : Obs w t.heap d xs o es ep) (hj : xs[j]? = some x) (at_ : gAt xs x.1 = some x.2.2)
    (q : ∀ h', GDict w h' d (gPut xs x.1 u v) → Heap.SameBut d t.heap h' → Q () { t with heap := h' }) : wpAny (model prog w) A (updateDict d (·.modify j fun e => { e with val := v }) part) Q E t := by
  have put : gPut xs x.1 u v = xs.map (gSet x.1 v) := by simp [gPut, at_]
  refine wpAny_updateDict B.get B.data (q _ ?_ (Heap.SameBut.update ..))
  rw [put]
  refine B.put (Heap.SameBut.update ..) (Heap.get?_update_self _ B.get (Obj.isFreed_of_dict (Obj.data_mapDict B.data _))) (B.exact.mapDict _) (Obj.data_mapDict B.data _) (by rw [Array.toList_modify, B.row, g_modify B.once hj]) (by rw [g_keys_set]; exact B.once) fun y hy => ?_
  obtain ⟨z, hz, rfl⟩ := List.mem_map.mp hy
  by_cases e : z.1 = x.1
  · exact ⟨z.1, by simpa [gSet, e] using B.keys z hz, by simp [gSet, e]⟩
  · exact ⟨z.1, by simpa [gSet, e] using B.keys z hz, by simp [gSet, e]⟩
/-- d's value at a key, if any -/
theorem g_get {Q : Option Value → Shared → Prop} (hu : A.units + 8 < cLine) (hk : gKey s.heap k u) (hm : GDict w s.heap d xs) (q : Q (gAt xs k) { s with toks := s.toks + k.draws }) : wpAny (model prog w) A (dictGet d u) Q E s := by
  refine wpAny_holding (wpAny_bind (g_hash hu hk (g_place hu hk hm (fun o es ep B no _ => wpAny_pure (no ▸ q)) fun o es ep j x B hj e at_ => ?_)))
  rw [at_] at q
  exact wpAny_bind (g_read B hj fun h => wpAny_pure (by rw [h]; exact q))
/-- d[k] = v -/
theorem g_set {v : Value} {Q : Unit → Shared → Prop} (hu : A.units + 8 < cLine) (hk : gKey s.heap k u) (hm : GDict w s.heap d xs) (hz : xs.length ≤ sizeLine) (q : ∀ h', GDict w h' d (gPut xs k u v) → Heap.SameBut d s.heap h' → Q () { s with heap := h', toks := s.toks + k.draws }) : wpAny (model prog w) A (dictSet d u v) Q E s := by
  refine wpAny_holding (wpAny_bind (g_hash hu hk (wpAny_holding (g_place hu hk hm (fun o es ep B no out => ?_) fun o es ep j x B hj e at_ => ?_))))
  · exact wpAny_bind (wpAny_rule (g_push B hk no out hz q))
  · subst e
    exact wpAny_bind (wpAny_rule (wpAny_bind (g_over B hj at_ fun h' g sb => wpAny_point (q h' g sb))))
/-- d.setdefault(k, f) -/
theorem g_default {f : Value} {Q : Value → Shared → Prop} (hu : A.units + 8 < cLine) (hk : gKey s.heap k u) (hm : GDict w s.heap d xs) (hz : xs.length ≤ sizeLine) (h1 : ∀ v, gAt xs k = some v → Q v { s with toks := s.toks + k.draws })
    (h2 : gAt xs k = none → ∀ h', GDict w h' d (gPut xs k u f) → Heap.SameBut d s.heap h' → Q f { s with heap := h', toks := s.toks + k.draws }) : wpAny (model prog w) A (dictSetDefault d u f) Q E s := by
  refine wpAny_holding (wpAny_bind (g_hash hu hk (g_place hu hk hm (fun o es ep B no out => ?_) fun o es ep j x B hj e at_ => ?_)))
  · exact wpAny_bind (wpAny_rule (wpAny_bind (g_push B hk no out hz fun h' g sb => wpAny_pure (h2 no h' g sb))))
  · exact wpAny_bind (g_read B hj fun h => by rw [h]; exact wpAny_bind (wpAny_rule (wpAny_pure (h1 _ at_))))
theorem GDict.typeIs (hm : GDict w s.heap d xs) : s.TypeIs (.ref d) "dict" := let ⟨o, _, _, ho, hc, _⟩ := hm; ⟨o, ho, hc.1⟩
/-- what the three special methods tell -/
theorem g_has {Q : Value → Shared → Prop} (hu : A.units + 9 < cLine) (hk : gKey s.heap k u) (hs : (d == sysModules) = false) (hm : GDict w s.heap d xs) (q : Q (.bool (gAt xs k).isSome) { s with toks := s.toks + k.draws }) : wpAny (model prog w) A (call (.builtin "dict.__contains__") [.ref d, u]) Q E s := by
  refine wpAny_call_entry slot_dict_contains hm.typeIs entry_dict_contains (wpAny_bind (m := dictGet d u) (g_get hu hk hm ?_)) (args_dict_contains _ _)
  generalize gAt xs k = r at q ⊢
  match r, q with
  | some _, q => exact wpAny_pure ⟨_, rfl, q⟩
  | none, q => exact wpAny_bind (m := Builtin.Dict.pendingKey? d u) (wpAny_pendingKey_other hs (wpAny_pure ⟨_, rfl, q⟩))
theorem g_at {v : Value} {Q : Value → Shared → Prop} (hu : A.units + 9 < cLine) (hk : gKey s.heap k u) (hm : GDict w s.heap d xs) (hv : gAt xs k = some v) (q : Q v { s with toks := s.toks + k.draws }) : wpAny (model prog w) A (call (.builtin "dict.__getitem__") [.ref d, u]) Q E s :=
  wpAny_call_entry slot_dict_getitem hm.typeIs entry_dict_getitem (wpAny_bind (m := dictGet d u) (g_get hu hk hm (by rw [hv]; exact wpAny_pure ⟨v, rfl, q⟩))) (args_dict_getitem _ _)
theorem g_to {v : Value} {Q : Value → Shared → Prop} (hu : A.units + 9 < cLine) (hk : gKey s.heap k u) (hm : GDict w s.heap d xs) (hz : xs.length ≤ sizeLine) (q : ∀ h', GDict w h' d (gPut xs k u v) → Heap.SameBut d s.heap h' → Q .none { s with heap := h', toks := s.toks + k.draws }) : wpAny (model prog w) A (call (.builtin "dict.__setitem__") [.ref d, u, v]) Q E s :=
  wpAny_call_entry slot_dict_setitem hm.typeIs entry_dict_setitem (wpAny_bind (m := Builtin.Dict.notOrdered "__setitem__" _) (wpAny_notOrdered_dict hm.typeIs (wpAny_bind (m := dictSet d u v) (g_set hu hk hm hz fun h' g sb => wpAny_pure ⟨_, rfl, q h' g sb⟩)))) (args_dict_setitem _ _ _)
/-- k in d -/
theorem g_contains {Q : Bool → Shared → Prop} (hu : A.units + 9 < cLine) (hk : gKey s.heap k u) (hs : (d == sysModules) = false) (hm : GDict w s.heap d xs) (q : Q (gAt xs k).isSome { s with toks := s.toks + k.draws }) : wpAny (model prog w) A (contains (.ref d) u) Q E s := by
  refine wpAny_holding (wpAny_bind (wpAny_specialOf hm.typeIs slot_dict_contains.lookup ?_))
  simp only [Option.some_beq_some, beq_builtin_none, Bool.false_eq_true, if_false]
  exact wpAny_bind (wpAny_callSpecialUnlessNone?_slot (name := Str.ofString "__contains__") hm.typeIs slot_dict_contains (g_has hu hk hs hm (wpAny_truthy_bool q)))
/-- d[k] -/
theorem g_item {v : Value} {Q : Value → Shared → Prop} (hu : A.units + 9 < cLine) (hk : gKey s.heap k u) (hm : GDict w s.heap d xs) (hv : gAt xs k = some v) (q : Q v { s with toks := s.toks + k.draws }) : wpAny (model prog w) A (getItem (.ref d) u) Q E s :=
  wpAny_holding (wpAny_bind (wpAny_sequenceKey hm.typeIs (by decide) (wpAny_bind (wpAny_callSpecial?_slot (name := Str.ofString "__getitem__") hm.typeIs slot_dict_getitem (g_at hu hk hm hv (wpAny_pure q))))))
/-- d[k] = v -/
theorem g_setItem {v : Value} {Q : Unit → Shared → Prop} (hu : A.units + 9 < cLine) (hk : gKey s.heap k u) (hm : GDict w s.heap d xs) (hz : xs.length ≤ sizeLine) (q : ∀ h', GDict w h' d (gPut xs k u v) → Heap.SameBut d s.heap h' → Q () { s with heap := h', toks := s.toks + k.draws }) : wpAny (model prog w) A (setItem (.ref d) u v) Q E s :=
  wpAny_holding (wpAny_bind (wpAny_sequenceKey hm.typeIs (by decide) (wpAny_bind (wpAny_callSpecial?_slot (name := Str.ofString "__setitem__") hm.typeIs slot_dict_setitem (g_to hu hk hm hz fun h' g sb => wpAny_pure (q h' g sb))))))
end
section
variable {prog : Program} {w : World} {A : Around} {E : Value → Shared → Prop} {s : Shared} {d : Addr} {u : Value} {k : NestedKey} {xs : List GE}
/-- what d.get asks: f stands for what was handed over, None else -/
def GetS (w : World) (d : Addr) (u f : Value) : PySem.Spec := fun A R s => A.units + 9 < cLine ∧ ∃ k xs, gKey s.heap k u ∧ GDict w s.heap d xs ∧ R (.ok (.ret ((gAt xs k).getD f))) { s with toks := s.toks + k.draws }
/-- the end of d.get: what stands at the key, f else -/
def getEnd (d : Addr) (u f : Value) (r : Option Value) : Sem Fin := match r with
  | some v => ret v
  | none => Builtin.Dict.missed d u >>= fun m => match m with
    | some v => ret v
    | none => ret f
theorem g_meet {f : Value} {t : Sem Fin} (hs : (d == sysModules) = false) (e : t = dictGet d u >>= getEnd d u f) : MeetsIn prog w t (GetS w d u f) := .of_wp fun A R s ⟨hu, k, xs, hk, hm, q⟩ => by
  subst e
  refine wpAny_bind (g_get hu hk hm ?_)
  generalize gAt xs k = r at q ⊢
  match r, q with
  | some v, q => exact wpAny_pure ⟨v, rfl, q⟩
  | none, q => exact wpAny_bind (wpAny_missed_other hs (wpAny_pure ⟨f, rfl, q⟩))
theorem g_meet2 (hs : (d == sysModules) = false) (f : Value) : MeetsIn prog w (Builtin.«dict.get» ⟨[.ref d, u, f], []⟩) (GetS w d u f) := g_meet hs (by
  show (dictGet d u >>= _) = _
  exact congrArg _ (funext fun r => by cases r <;> rfl))
/-- d.setdefault(k, f) -/
theorem g_meetD (hs : (d == sysModules) = false) (f : Value) : MeetsIn prog w (Builtin.«dict.setdefault» ⟨[.ref d, u, f], []⟩) (fun A R s => A.units + 9 < cLine ∧ ∃ k xs, gKey s.heap k u ∧ GDict w s.heap d xs ∧ xs.length ≤ sizeLine ∧
      (∀ v, gAt xs k = some v → R (.ok (.ret v)) { s with toks := s.toks + k.draws }) ∧ (gAt xs k = none → ∀ h', GDict w h' d (gPut xs k u f) → Heap.SameBut d s.heap h' → R (.ok (.ret f)) { s with heap := h', toks := s.toks + k.draws })) :=
  .of_wp fun A R s ⟨hu, k, xs, hk, hm, hz, h1, h2⟩ => by
    have key : wpAny (model prog w) A.in1 (Builtin.Dict.keyAndDefault "setdefault" ⟨[.ref d, u, f], []⟩) (fun r t => r = (d, u, some f) ∧ t = s) (fun e t => R (.error e) t) s := wpAny_bind (wpAny_notOrdered_dict hm.typeIs (wpAny_pure ⟨rfl, rfl⟩))
    refine wpAny_bind (wpAny_mono key (fun r t h => ?_) fun _ _ z => z)
    obtain ⟨rfl, rfl⟩ := h
    simp only [hs, Bool.false_eq_true, if_false, Option.getD_some]
    exact wpAny_bind (g_default hu hk hm hz (fun v hv => wpAny_pure ⟨v, rfl, h1 v hv⟩) fun no h' g sb => wpAny_pure ⟨f, rfl, h2 no h' g sb⟩)
theorem GDict.new (h : Heap) : GDict w (h.push { cls := .type "dict", data := .dict #[] }) h.objs.size [] := ⟨_, #[], 0, Heap.get?_push_size _ rfl, ⟨rfl, rfl, rfl⟩, rfl, rfl, (fun _ hx => nomatch hx), List.nodup_nil⟩
end
end L2.NW
end
section
set_option Elab.async false
set_option autoImplicit false
set_option linter.all false
set_option maxRecDepth 100000
/-! NwA: data without a heap (D), how it lies in the heap (Rp), the world of a walk (I: what never changes, H: all), predicate transformers (WP). -/
namespace L2.NW
open PySem PySem.Spec PyProof.Rows
/-- data: tuples and lists by value -/
inductive D where
  | non | bl (b : Bool) | int (i : Int) | str (s : Str)
  | tup (l : List D) | lst (l : List D)
  | ins (c : Str) (ns : List Str) (l : List D)
  | pen
  | raw (v : V)
  /-- an empty dict that stays so -/
  | dic (a : Addr)
  /-- the j-th lambda of the running def -/
  | fn (j : Nat)
  /-- an error that nobody has raised yet -/
  | exc (c : Str) (ns : List Str) (l : List D)
  /-- a dict that stays as it is: its keys, its values -/
  | dct (ks vs : List D)
deriving Inhabited

/-! ### keys -/
mutual
/-- data as a key: no bools, lists or objects in it -/
def D.nk : D → Option NestedKey
  | .non => some .none
  | .int i => some (.num i)
  | .str x => some (.text x)
  | .tup l => (D.nks l).map .tup
  | _ => none
def D.nks : List D → Option (List NestedKey)
  | [] => some []
  | d :: l => match d.nk, D.nks l with
    | some k, some ks => some (k :: ks)
    | _, _ => none
end
mutual
theorem D.nk_inj : ∀ {d e : D} {k : NestedKey}, d.nk = some k → e.nk = some k → d = e
  | .non, e, k, h, g => by
    simp only [D.nk, Option.some.injEq] at h; subst h
    cases e <;> simp [D.nk, Option.map_eq_some_iff] at g ⊢
  | .int i, e, k, h, g => by
    simp only [D.nk, Option.some.injEq] at h; subst h
    cases e <;> simp [D.nk, Option.map_eq_some_iff] at g ⊢
    exact g.symm
  | .str x, e, k, h, g => by
    simp only [D.nk, Option.some.injEq] at h; subst h
    cases e <;> simp [D.nk, Option.map_eq_some_iff] at g ⊢
    exact g.symm
  | .tup l, e, k, h, g => by
    simp only [D.nk, Option.map_eq_some_iff] at h
    obtain ⟨ks, h, rfl⟩ := h
    cases e <;> simp [D.nk, Option.map_eq_some_iff] at g ⊢
    exact D.nks_inj h g
  | .bl _, _, _, h, _ => by simp [D.nk] at h
  | .lst _, _, _, h, _ => by simp [D.nk] at h
  | .ins _ _ _, _, _, h, _ => by simp [D.nk] at h
  | .pen, _, _, h, _ => by simp [D.nk] at h
  | .raw _, _, _, h, _ => by simp [D.nk] at h
  | .dic _, _, _, h, _ => by simp [D.nk] at h
  | .fn _, _, _, h, _ => by simp [D.nk] at h
  | .exc _ _ _, _, _, h, _ => by simp [D.nk] at h
  | .dct _ _, _, _, h, _ => by simp [D.nk] at h
theorem D.nks_inj : ∀ {l m : List D} {ks : List NestedKey}, D.nks l = some ks → D.nks m = some ks → l = m
  | [], m, ks, h, g => by
    simp only [D.nks, Option.some.injEq] at h; subst h
    cases m with
    | nil => rfl
    | cons e m =>
      simp only [D.nks] at g
      split at g <;> simp at g
  | d :: l, m, ks, h, g => by
    simp only [D.nks] at h
    split at h
    · rename_i k ks' h1 h2
      simp only [Option.some.injEq] at h
      subst h
      cases m with
      | nil => simp [D.nks] at g
      | cons e m =>
        simp only [D.nks] at g
        split at g
        · rename_i k2 ks2 g1 g2
          simp only [Option.some.injEq, List.cons.injEq] at g
          obtain ⟨rfl, rfl⟩ := g
          rw [D.nk_inj h1 g1, D.nks_inj h2 g2]
        · simp at g
    · simp at h
end
/-- data as an int or a text -/
def D.kk : D → Option Key
  | .int i => some (.inl i)
  | .str x => some (.inr x)
  | _ => none
/-- data as a key of a dict: no text by itself -/
def KeyG (d : D) (k : NestedKey) : Prop := d.nk = some k ∧ k.depth ≤ 8 ∧ ∀ x, k ≠ .text x
/-- a dict's object: its entries -/
def GRaw (w : World) (h : Heap) (a : Addr) (xs : List GE) : Prop := xs.length ≤ sizeLine ∧ (a == sysModules) = false ∧ ∃ o es ep, h.get? a = some o ∧ o.ExactDict ∧ o.data = .dict es ep ∧ es.toList = xs.map (gEnt w) ∧ (xs.map (·.1)).Nodup
abbrev GV := NestedKey × V × V
abbrev GX : List GV → List GE → Prop := Paired fun p q => p.1 = q.1 ∧ RelV p.2.1 q.2.1 ∧ RelV p.2.2 q.2.2
def GDO (w : World) (a : Addr) (l : List GV) : HO := .ext fun h => ∃ xs, GX l xs ∧ GRaw w h a xs
abbrev KeysG : List D → List GV → Prop := Paired fun d q => KeyG d q.1
/-- an error: its class's name, its fields -/
structure Ex where
  cls : Str
  ns : List Str
  vs : List D

/-- what may come of a piece: b counts the draws that are left -/
@[ext] structure WP (α : Type) where
  run : Nat → (α → Nat → Prop) → (Ex → Nat → Prop) → Prop
  mono : ∀ {b : Nat} {Q Q' : α → Nat → Prop} {E E' : Ex → Nat → Prop}, run b Q E → (∀ a b, Q a b → Q' a b) → (∀ x b, E x b → E' x b) → run b Q' E'

namespace WP
variable {α β : Type}
def pure (a : α) : WP α := ⟨fun b Q _ => Q a b, fun h hq _ => hq _ _ h⟩
def bind (m : WP α) (f : α → WP β) : WP β :=
  ⟨fun b Q E => m.run b (fun a b' => (f a).run b' Q E) E, fun h hq he => m.mono h (fun _ _ h' => (f _).mono h' hq he) he⟩
instance : Monad WP where
  pure := WP.pure
  bind := WP.bind
/-- no way goes on -/
def bad : WP α := ⟨fun _ _ _ => False, fun h _ _ => h.elim⟩
def raise (x : Ex) : WP α := ⟨fun b _ E => E x b, fun h _ he => he _ _ h⟩
/-- one of these -/
def any (P : α → Prop) : WP α := ⟨fun b Q _ => ∀ a, P a → Q a b, fun h hq _ a ha => hq _ _ (h a ha)⟩
/-- under a condition -/
def need (c : Prop) (m : WP α) : WP α := ⟨fun b Q E => c ∧ m.run b Q E, fun h hq he => ⟨h.1, m.mono h.2 hq he⟩⟩
@[simp] theorem run_pure (a : α) (b Q E) : (Pure.pure a : WP α).run b Q E = Q a b := rfl
@[simp] theorem run_bind (m : WP α) (f : α → WP β) (b Q E) : (m >>= f).run b Q E = m.run b (fun a b' => (f a).run b' Q E) E := rfl
@[simp] theorem run_bad (b Q E) : (bad : WP α).run b Q E = False := rfl
@[simp] theorem run_raise (x : Ex) (b Q E) : (raise x : WP α).run b Q E = E x b := rfl
@[simp] theorem run_need (c : Prop) (m : WP α) (b Q E) : (need c m).run b Q E = (c ∧ m.run b Q E) := rfl
@[simp] theorem pure_bind (a : α) (f : α → WP β) : (Pure.pure a >>= f) = f a := rfl
@[simp] theorem bind_pure (m : WP α) : (m >>= Pure.pure) = m := rfl
@[simp] theorem bind_assoc {γ : Type} (m : WP α) (f : α → WP β) (g : β → WP γ) : (m >>= f) >>= g = m >>= fun a => f a >>= g := rfl
@[simp] theorem bad_bind (f : α → WP β) : ((bad : WP α) >>= f) = bad := rfl
@[simp] theorem raise_bind (x : Ex) (f : α → WP β) : ((raise x : WP α) >>= f) = raise x := rfl
@[simp] theorem need_bind (c : Prop) (m : WP α) (f : α → WP β) : (need c m >>= f) = need c (m >>= f) := rfl
@[simp] theorem need_true (m : WP α) : need True m = m := by ext; simp
theorem need_of {c : Prop} (h : c) (m : WP α) : need c m = m := by ext; simp [h]
end WP
/-- what a function value is: a closure (the name of its code object, what stands there), a def of the module -/
inductive FV where
  | no
  | clo (q : Str) (φ : Addr → Addr → Heap → Prop)
  | stat (f : Addr)
def FV.at_ (I : Hp) (v : V) : FV → Prop
  | .no => False
  | .clo q φ => ∃ f c, v = .ref f ∧ I f = some (.ext (φ f c)) ∧ I c = some (LamX.CodeO c q)
  | .stat f => v = .ref f
/-- what the cells hold that a closure got -/
structure CapQ where
  cl : List (Str × Addr)
  fr : List Str
  ws : List (Option V)
/-- where the pen stands; the tables of code objects; the function values: what each is, what it is worth; what never changed since they were handed on; what their cells hold -/
structure Pt where
  a : Addr
  T : List NdefX.NTab
  lam : Nat → FV := fun _ => .no
  mir : Nat → List D → WP D := fun _ _ => WP.bad
  i0 : Hp := fun _ => none
  cs : List CapQ := []

/-- what is fixed through a walk: the written part, the module's names, where the pen stands -/
structure Sx where
  K : PySem.W.Frag
  mg : Str → Option Value
  p : Pt
  w : World

mutual
/-- d lies at v, within I alone -/
def Rp (S : Sx) (I : Hp) : D → V → Prop
  | .non, v => v = .non
  | .bl b, v => v = .bl b
  | .int i, v => v = .int i
  | .str s, v => v = .str s
  | .tup l, v => ∃ a vs, v = .ref a ∧ SqT S.K I a vs ∧ Rps S I l vs
  | .lst l, v => ∃ a vs, v = .ref a ∧ I a = some (.lst vs) ∧ Rps S I l vs
  | .ins c ns l, v => ∃ a C dx vs, v = .ref a ∧ S.mg c = some (.ref C) ∧ I a = some (.ins C dx (ns.zip vs)) ∧ ns.length = vs.length ∧ Rps S I l vs
  | .pen, v => v = .ref S.p.a
  | .raw w, v => v = w
  | .dic a, v => v = .ref a ∧ ∃ kvs, I a = some (.dK kvs)
  | .fn j, v => (S.p.lam j).at_ I v
  | .exc c ns l, v => ∃ a C, v = .ref a ∧ S.mg c = some (.ref C) ∧ ((ns = [] ∧ l = [] ∧ I a = some (ExO (.ref C) a)) ∨ ∃ d vs, I a = some (exo a C (some d)) ∧ I d = some (.xd (ns.zip vs)) ∧ ns.length = vs.length ∧ Rps S I l vs)
  | .dct ks vs, v => ∃ a xs, v = .ref a ∧ I a = some (GDO S.w a xs) ∧ KeysG ks xs ∧ Rps S I ks (xs.map (·.2.1)) ∧ Rps S I vs (xs.map (·.2.2))
def Rps (S : Sx) (I : Hp) : List D → List V → Prop
  | [], vs => vs = []
  | d :: l, vs => ∃ v ws, vs = v :: ws ∧ Rp S I d v ∧ Rps S I l ws
end
theorem Rps.len {S : Sx} {I : Hp} : ∀ {l : List D} {vs : List V}, Rps S I l vs → l.length = vs.length
  | [], vs, h => by simp only [Rps] at h; subst h; rfl
  | d :: l, vs, h => by
    simp only [Rps] at h
    obtain ⟨v, ws, rfl, _, h⟩ := h
    simp [Rps.len h]
theorem Rps.get {S : Sx} {I : Hp} : ∀ {l : List D} {vs : List V} {i : Nat} {d : D}, Rps S I l vs → l[i]? = some d → ∃ v, vs[i]? = some v ∧ Rp S I d v
  | [], vs, i, d, _, e => by simp at e
  | x :: l, vs, 0, d, h, e => by
    simp only [Rps] at h
    obtain ⟨v, ws, rfl, hv, _⟩ := h
    simp at e; subst e
    exact ⟨v, rfl, hv⟩
  | x :: l, vs, i + 1, d, h, e => by
    simp only [Rps] at h
    obtain ⟨v, ws, rfl, _, h⟩ := h
    obtain ⟨u, h1, h2⟩ := Rps.get (i := i) (d := d) h (by simpa using e)
    exact ⟨u, by simpa using h1, h2⟩
theorem Rps.of_get {S : Sx} {I : Hp} : ∀ {l : List D} {vs : List V} {i : Nat} {v : V}, Rps S I l vs → vs[i]? = some v → ∃ d, l[i]? = some d ∧ Rp S I d v
  | [], vs, i, v, h, e => by simp only [Rps] at h; subst h; simp at e
  | x :: l, vs, 0, v, h, e => by
    simp only [Rps] at h
    obtain ⟨u, ws, rfl, hv, _⟩ := h
    simp at e; subst e
    exact ⟨x, rfl, hv⟩
  | x :: l, vs, i + 1, v, h, e => by
    simp only [Rps] at h
    obtain ⟨u, ws, rfl, _, h⟩ := h
    obtain ⟨d, h1, h2⟩ := Rps.of_get (i := i) (v := v) h (by simpa using e)
    exact ⟨d, by simpa using h1, h2⟩
theorem Rps.nil {S : Sx} {I : Hp} : Rps S I [] [] := by simp [Rps]
theorem Rps.cons {S : Sx} {I : Hp} {d : D} {v : V} {l : List D} {vs : List V} (h : Rp S I d v) (t : Rps S I l vs) : Rps S I (d :: l) (v :: vs) := by
  simp only [Rps]; exact ⟨v, vs, rfl, h, t⟩
theorem Rps.append {S : Sx} {I : Hp} : ∀ {l m : List D} {vs ws : List V}, Rps S I l vs → Rps S I m ws → Rps S I (l ++ m) (vs ++ ws)
  | [], m, vs, ws, h, t => by simp only [Rps] at h; subst h; simpa using t
  | d :: l, m, vs, ws, h, t => by
    simp only [Rps] at h
    obtain ⟨v, us, rfl, hv, h⟩ := h
    exact .cons hv (Rps.append h t)
theorem Rps.set {S : Sx} {I : Hp} {d : D} {v : V} (r : Rp S I d v) : ∀ {l : List D} {vs : List V} (i : Nat), Rps S I l vs → Rps S I (l.set i d) (vs.set i v)
  | [], vs, i, h => by simp only [Rps] at h; subst h; simp [Rps]
  | x :: l, vs, 0, h => by
    simp only [Rps] at h
    obtain ⟨u, us, rfl, hv, h⟩ := h
    exact .cons r h
  | x :: l, vs, i + 1, h => by
    simp only [Rps] at h
    obtain ⟨u, us, rfl, hv, h⟩ := h
    exact .cons hv (Rps.set r i h)

theorem SqT_same {K : PySem.W.Frag} {H H' : Hp} {a : Addr} {xs : List V} (e : Same H H') (h : SqT K H a xs) : SqT K H' a xs := by
  rcases h with (h | ⟨o, h⟩) | h
  · exact .inl (.inl (e _ _ h))
  · exact .inl (.inr ⟨o, e _ _ h⟩)
  · exact .inr h
theorem FV.same {I I' : Hp} (e : Same I I') {v : V} {x : FV} (h : x.at_ I v) : x.at_ I' v := by
  cases x with
  | no => exact h
  | clo q φ => obtain ⟨f, c, h1, h2, h3⟩ := h; exact ⟨f, c, h1, e _ _ h2, e _ _ h3⟩
  | stat f => exact h
theorem FV.at_.ref {I : Hp} {v : V} {x : FV} (h : x.at_ I v) : ∃ f, v = .ref f := by
  cases x with
  | no => exact h.elim
  | clo q φ => obtain ⟨f, c, h1, _⟩ := h; exact ⟨f, h1⟩
  | stat f => exact ⟨f, h⟩
mutual
theorem Rp.same {S : Sx} {I I' : Hp} (e : Same I I') : ∀ {d : D} {v : V}, Rp S I d v → Rp S I' d v
  | .non, v, h => by simpa only [Rp] using h
  | .bl b, v, h => by simpa only [Rp] using h
  | .int i, v, h => by simpa only [Rp] using h
  | .str s, v, h => by simpa only [Rp] using h
  | .tup l, v, h => by
    simp only [Rp] at h ⊢
    obtain ⟨a, vs, rfl, h1, h2⟩ := h
    exact ⟨a, vs, rfl, SqT_same e h1, Rps.same e h2⟩
  | .lst l, v, h => by
    simp only [Rp] at h ⊢
    obtain ⟨a, vs, rfl, h1, h2⟩ := h
    exact ⟨a, vs, rfl, e _ _ h1, Rps.same e h2⟩
  | .ins c ns l, v, h => by
    simp only [Rp] at h ⊢
    obtain ⟨a, C, dx, vs, rfl, h1, h2, h3, h4⟩ := h
    exact ⟨a, C, dx, vs, rfl, h1, e _ _ h2, h3, Rps.same e h4⟩
  | .pen, v, h => by simpa only [Rp] using h
  | .raw w, v, h => by simpa only [Rp] using h
  | .dic a, v, h => by
    simp only [Rp] at h ⊢
    obtain ⟨h1, kvs, h2⟩ := h
    exact ⟨h1, kvs, e _ _ h2⟩
  | .fn j, v, h => by
    simp only [Rp] at h ⊢
    exact FV.same e h
  | .dct ks vs, v, h => by
    simp only [Rp] at h ⊢
    obtain ⟨a, xs, h1, h2, h3, h4, h5⟩ := h
    exact ⟨a, xs, h1, e _ _ h2, h3, Rps.same e h4, Rps.same e h5⟩
  | .exc c ns l, v, h => by
    simp only [Rp] at h ⊢
    obtain ⟨a, C, h1, h2, h3⟩ := h
    refine ⟨a, C, h1, h2, ?_⟩
    rcases h3 with ⟨h3, h4, h5⟩ | ⟨d, vs, h3, h4, h5, h6⟩
    · exact .inl ⟨h3, h4, e _ _ h5⟩
    · exact .inr ⟨d, vs, e _ _ h3, e _ _ h4, h5, Rps.same e h6⟩
theorem Rps.same {S : Sx} {I I' : Hp} (e : Same I I') : ∀ {l : List D} {vs : List V}, Rps S I l vs → Rps S I' l vs
  | [], vs, h => by simpa only [Rps] using h
  | d :: l, vs, h => by
    simp only [Rps] at h ⊢
    obtain ⟨v, ws, rfl, h1, h2⟩ := h
    exact ⟨v, ws, rfl, Rp.same e h1, Rps.same e h2⟩
end
end L2.NW
end
section
set_option Elab.async false
set_option autoImplicit false
set_option linter.all false
set_option maxRecDepth 100000
set_option maxHeartbeats 2000000
/-! NwO: dicts as things of the heap. Their keys: tuples (KDO), or ints and texts (the library's dK). -/
namespace L2.NW
open PySem PySem.Spec PyProof.Rows
def isTbl : HO → Prop
  | .tbl _ => True
  | _ => False
/-- neither a table nor a code object -/
def Plain' (o : HO) : Prop := ¬ isTbl o ∧ ∀ c q, o ≠ LamX.CodeO c q
/-! ### the dict whose keys are tuples -/
/-- its entries, told without the keys' insides -/
def DRaw (w : World) (h : Heap) (a : Addr) (xs : List (NestedKey × Addr × Value)) : Prop :=
  xs.length ≤ sizeLine ∧ (a == sysModules) = false ∧ ∃ o es ep, h.get? a = some o ∧ o.ExactDict ∧ o.data = .dict es ep ∧ es.toList = xs.map (fun x => (⟨x.1.hash w, .ref x.2.1, x.2.2⟩ : DictEntry)) ∧ (xs.map (·.1)).Nodup
abbrev KX2 : List (NestedKey × Addr × V) → List (NestedKey × Addr × Value) → Prop := Paired fun p q => p.1 = q.1 ∧ p.2.1 = q.2.1 ∧ RelV p.2.2 q.2.2
def KDO (w : World) (a : Addr) (l : List (NestedKey × Addr × V)) : HO := .ext fun h => ∃ xs, KX2 l xs ∧ DRaw w h a xs
theorem DRaw.dict {w : World} {h : Heap} {a : Addr} {xs : List (NestedKey × Addr × Value)} (r : DRaw w h a xs) : ∃ o es ep, h.get? a = some o ∧ o.data = .dict es ep := by
  obtain ⟨_, _, o, es, ep, h1, _, h2, _⟩ := r
  exact ⟨o, es, ep, h1, h2⟩
/-! ### the dict of any keys -/
theorem GRaw.dict {w : World} {h : Heap} {a : Addr} {xs : List GE} (r : GRaw w h a xs) : ∃ o es ep, h.get? a = some o ∧ o.data = .dict es ep := by
  obtain ⟨_, _, o, es, ep, h1, _, h2, _⟩ := r
  exact ⟨o, es, ep, h1, h2⟩
theorem code_ne {a c : Addr} {φ : Heap → Prop} {q : Str} (hd : ∀ h, φ h → ∃ o es ep, h.get? a = some o ∧ o.data = .dict es ep) : HO.ext φ ≠ LamX.CodeO c q := fun z => by
  unfold LamX.CodeO at z
  have z' := HO.ext.inj z
  let ob : Obj := { cls := .none, data := .fields #[.none, .str q 0] }
  let h : Heap := { objs := Array.replicate (c + 1) ob }
  have hg : ∀ b o, h.get? b = some o → o = ob := fun b o e => by
    unfold Heap.get? at e
    split at e
    · cases e
    · have e' : (Array.replicate (c + 1) ob)[b]? = some o := e
      rw [Array.getElem?_replicate] at e'
      split at e'
      · exact (Option.some.inj e').symm
      · cases e'
  have hc : h.get? c = some ob := by
    unfold Heap.get?
    have e' : h.objs[c]? = some ob := by
      show (Array.replicate (c + 1) ob)[c]? = some ob
      rw [Array.getElem?_replicate, if_pos (by omega)]
    rw [e']
  have t : ∃ (oc : Obj) (vs : Array Value) (t : Tok), h.get? c = some oc ∧ oc.data = .fields vs ∧ vs[1]? = some (.str q t) := ⟨ob, #[.none, .str q 0], 0, hc, rfl, rfl⟩
  rw [← congrFun z' h] at t
  obtain ⟨o, es, ep, h1, h2⟩ := hd h t
  have := hg a o h1
  rw [this] at h2
  cases h2
theorem plain_gdo {w : World} {a : Addr} {l : List GV} : Plain' (GDO w a l) := ⟨id, fun c q z => code_ne (a := a) (fun h ⟨xs, _, r⟩ => r.dict) z⟩
theorem gdo_ok {P : Program} {w : World} {H : Hp} {h : Heap} {a : Addr} {l : List GV} {xs : List GE} (p : GX l xs) (r : GRaw w h a xs) : ObjOk P w H h a (GDO w a l) := by
  obtain ⟨o, es, ep, h1, h2⟩ := r.dict
  refine ⟨⟨xs, p, r⟩, ⟨o, h1⟩, fun g1 g2 z k => ?_⟩
  obtain ⟨ys, p', a1, a2, o', es', ep', b1, b2⟩ := z
  exact ⟨ys, p', a1, a2, o', es', ep', k o' b1, b2⟩
/-! ### what the slots say -/
/-- the pairs, each key a tuple of plain things -/
abbrev KRd (S : Sx) (I : Hp) : List (D × D) → List (NestedKey × Addr × V) → Prop := Paired fun p q => p.1.nk = some q.1 ∧ q.1.depth ≤ 8 ∧ Rp S I p.1 (.ref q.2.1) ∧ Rp S I p.2 q.2.2
abbrev KRk (S : Sx) (I : Hp) : List (D × D) → List GV → Prop := Paired fun p q => KeyG p.1 q.1 ∧ Rp S I p.1 q.2.1 ∧ Rp S I p.2 q.2.2
theorem KRd.same {S : Sx} {I I' : Hp} {l : List (D × D)} {xs : List (NestedKey × Addr × V)} (r : KRd S I l xs) (x : Same I I') : KRd S I' l xs := Paired.mapP r fun _ _ z => ⟨z.1, z.2.1, z.2.2.1.same x, z.2.2.2.same x⟩
theorem KRk.same {S : Sx} {I I' : Hp} {l : List (D × D)} {xs : List GV} (r : KRk S I l xs) (x : Same I I') : KRk S I' l xs := Paired.mapP r fun _ _ z => ⟨z.1, z.2.1.same x, z.2.2.same x⟩
end L2.NW
end
section
set_option Elab.async false
set_option autoImplicit false
set_option linter.all false
set_option maxRecDepth 100000
/-! NwB: the world of a walk, slots, the judgement DE. -/
namespace L2.NW
open PySem PySem.Spec PyProof.Rows
/-! ### the pen -/
structure Pen where
  cells : List Int
  at_ : Nat
  digits : Int
  count : Int
  blend : Int
def kC : Key := Sum.inr "cells"
def kA : Key := Sum.inr "at"
def kD : Key := Sum.inr "digits"
def kN : Key := Sum.inr "count"
def kB : Key := Sum.inr "blend"
def penKvs (ca : Addr) (p : Pen) : List (Key × V) := [(kC, .ref ca), (kA, .int p.at_), (kD, .int p.digits), (kN, .int p.count), (kB, .int p.blend)]
structure Pen.Ok (p : Pen) (b : Nat) : Prop where
  len : p.cells.length ≤ 63
  dg : 0 ≤ p.digits
  ct : 0 ≤ p.count
  cb : p.count + b ≤ 1000000000000
  b0 : 0 ≤ p.blend
  b1 : p.blend < 2147483587


/-- I: what never changes; H: all; b: draws left -/
structure SR (S : Sx) (I H : Hp) (b : Nat) : Prop where
  sub : Same I H
  pn : I S.p.a = none
  pen : ∃ (ca : Addr) (q : Pen), H S.p.a = some (.dK (penKvs ca q)) ∧ I ca = some (.lst (q.cells.map V.int)) ∧ q.Ok b
  tb : NdefX.TabsN S.p.T H
  nt : ∀ c ps, I c ≠ some (.tbl ps)
  cd : ∀ c q, H c = some (LamX.CodeO c q) → I c = some (LamX.CodeO c q)
  ci : Same S.p.i0 I

/-- something but a table stands at a -/
def Nt (H : Hp) (a : Addr) : Prop := ∃ u, H a = some u ∧ ¬ isTbl u
theorem not_nt {H : Hp} {a : Addr} (h : H a = none) : ¬ Nt H a := fun ⟨u, e, _⟩ => by rw [h] at e; cases e
theorem nt_lst {H : Hp} {a : Addr} {l : List V} (h : H a = some (.lst l)) : Nt H a := ⟨_, h, id⟩
theorem nt_ins {H : Hp} {a C d : Addr} {l : List (Str × V)} (h : H a = some (.ins C d l)) : Nt H a := ⟨_, h, id⟩
theorem nt_own {H : Hp} {a c : Addr} (h : H a = some (.own c)) : Nt H a := ⟨_, h, id⟩
theorem nt_ne {H : Hp} {a b : Addr} {o : HO} (h : ¬ Nt H a) (e : H b = some o) (t : ¬ isTbl o) : b ≠ a := fun z => h (by rw [← z]; exact ⟨o, e, t⟩)
/-- from one world to a later one -/
structure Stp (S : Sx) (I H I' H' : Hp) : Prop where
  ii : Same I I'
  hh : ∀ a o, H a = some o → a ≠ S.p.a → ¬ isTbl o → H' a = some o
  nn : ∀ a, Nt H a → I a = none → I' a = none
  tt : ∀ a, Nt H a → Nt H' a
theorem Stp.refl {S : Sx} {I H : Hp} : Stp S I H I H := ⟨fun _ _ h => h, fun _ _ h _ _ => h, fun _ _ h => h, fun _ h => h⟩
theorem Stp.trans {S : Sx} {I H I1 H1 I2 H2 : Hp} (x : Stp S I H I1 H1) (y : Stp S I1 H1 I2 H2) : Stp S I H I2 H2 :=
  ⟨x.ii.trans y.ii, fun a o h n t => y.hh a o (x.hh a o h n t) n t, fun a h n => y.nn a (x.tt a h) (x.nn a h n), fun a h => y.tt a (x.tt a h)⟩

/-- a new thing that never changes -/
theorem Stp.new {S : Sx} {I H : Hp} {a : Addr} {o : HO} (s : Same I H) (h : H a = none) : Stp S I H (upd I a o) (upd H a o) := by
  have hi : I a = none := s.free h
  refine ⟨fun b u e => ?_, fun b u e _ _ => ?_, fun b e n => ?_, fun b e => ?_⟩
  · rw [upd_ne (ne_of_none e hi)]; exact e
  · rw [upd_ne (ne_of_none e h)]; exact e
  · have : b ≠ a := fun z => not_nt h (by rw [← z]; exact e)
    rw [upd_ne this]; exact n
  · obtain ⟨u, e1, e2⟩ := e
    exact ⟨u, by rw [upd_ne (ne_of_none e1 h)]; exact e1, e2⟩
theorem plain_lst {l : List V} : Plain' (.lst l) := ⟨id, fun c q z => by unfold LamX.CodeO at z; cases z⟩
theorem plain_tup {l : List V} : Plain' (.tup l) := ⟨id, fun c q z => by unfold LamX.CodeO at z; cases z⟩
theorem plain_own {a : Addr} : Plain' (.own a) := ⟨id, fun c q z => by unfold LamX.CodeO at z; cases z⟩
theorem plain_dK {l : List (Key × V)} : Plain' (.dK l) := ⟨id, fun c q z => by unfold LamX.CodeO at z; cases z⟩
theorem plain_ins {C d : Addr} {l : List (Str × V)} : Plain' (.ins C d l) := ⟨id, fun c q z => by unfold LamX.CodeO at z; cases z⟩
theorem tabs_upd {T : List NdefX.NTab} {H : Hp} {a : Addr} {o : HO} (t : NdefX.TabsN T H) (h : ∀ u, H a = some u → Plain' u) : NdefX.TabsN T (upd H a o) := fun c hc => by
  obtain ⟨ps, h1, h2, h3⟩ := t c hc
  refine ⟨ps, ?_, h2, fun pos cv e => ?_⟩
  · have n : c.1 ≠ a := fun z => (h _ (by rw [← z]; exact h1)).1 (by trivial)
    rw [upd_ne n]; exact h1
  · obtain ⟨d, e1, e2⟩ := h3 pos cv e
    have n : d ≠ a := fun z => (h _ (by rw [← z]; exact e2)).2 _ _ rfl
    exact ⟨d, e1, by rw [upd_ne n]; exact e2⟩
theorem SR.tab {S : Sx} {I H : Hp} {b : Nat} (s : SR S I H b) {c : NdefX.NTab} (hc : c ∈ S.p.T) : ∃ u, H c.1 = some u ∧ isTbl u := by
  obtain ⟨ps, h1, _⟩ := s.tb c hc
  exact ⟨_, h1, trivial⟩
theorem plain_xd {l : List (Str × V)} : Plain' (.xd l) := ⟨id, fun c q z => by unfold LamX.CodeO at z; cases z⟩
theorem SR.new {S : Sx} {I H : Hp} {b : Nat} {a : Addr} {o : HO} (s : SR S I H b) (h : H a = none) (n : Plain' o := by first | exact plain_lst | exact plain_ins | exact plain_own | exact plain_tup | exact plain_dK | exact plain_xd | exact plain_gdo) : SR S (upd I a o) (upd H a o) b := by
  obtain ⟨ca, q, e1, e2, ok⟩ := s.pen
  have hp : S.p.a ≠ a := ne_of_none e1 h
  refine ⟨fun c u e => ?_, by rw [upd_ne hp]; exact s.pn, ⟨ca, q, by rw [upd_ne hp]; exact e1, ?_, ok⟩, tabs_upd s.tb (fun u z => by rw [h] at z; cases z), fun c ps z => ?_, fun c q e => ?_, fun c o e => ?_⟩
  · by_cases hc : c = a
    · subst hc; rw [upd_same] at e ⊢; exact e
    · rw [upd_ne hc] at e ⊢; exact s.sub c u e
  · rw [upd_ne (ne_of_none (s.sub _ _ e2) h)]; exact e2
  · by_cases hc : c = a
    · subst hc; rw [upd_same] at z; cases z; exact n.1 trivial
    · rw [upd_ne hc] at z; exact s.nt c ps z
  · by_cases hc : c = a
    · subst hc; rw [upd_same] at e ⊢; exact e
    · rw [upd_ne hc] at e ⊢; exact s.cd c q e
  · rw [upd_ne (ne_of_none (s.ci c o e) (s.sub.free h))]; exact s.ci c o e
/-- a new thing of our own, that may change yet -/
theorem Stp.newOwn {S : Sx} {I H : Hp} {a : Addr} {o : HO} (h : H a = none) : Stp S I H I (upd H a o) := by
  refine ⟨fun b u e => e, fun b u e _ _ => ?_, fun b e n => n, fun b e => ?_⟩
  · rw [upd_ne (ne_of_none e h)]; exact e
  · obtain ⟨u, e1, e2⟩ := e
    exact ⟨u, by rw [upd_ne (ne_of_none e1 h)]; exact e1, e2⟩
theorem SR.newOwn {S : Sx} {I H : Hp} {b : Nat} {a : Addr} {o : HO} (s : SR S I H b) (h : H a = none) (n : Plain' o := by first | exact plain_lst | exact plain_ins | exact plain_own | exact plain_tup | exact plain_dK) : SR S I (upd H a o) b := by
  obtain ⟨ca, q, e1, e2, ok⟩ := s.pen
  have hp : S.p.a ≠ a := ne_of_none e1 h
  refine ⟨fun c u e => by rw [upd_ne (ne_of_none (s.sub c u e) h)]; exact s.sub c u e, s.pn, ⟨ca, q, by rw [upd_ne hp]; exact e1, e2, ok⟩, tabs_upd s.tb (fun u z => by rw [h] at z; cases z), s.nt, fun c q e => ?_, s.ci⟩
  by_cases hc : c = a
  · subst hc; rw [upd_same] at e; cases e; exact absurd rfl (n.2 _ _)
  · rw [upd_ne hc] at e; exact s.cd c q e

/-! ### slots -/
inductive Sl where
  | no
  | val (d : D)
  /-- a list of this name's own -/
  | own (l : List D)
  /-- an instance that is being made -/
  | obj (c : Str) (ns : List Str) (l : List D)
  /-- a dict of this name's own, its keys tuples -/
  | od (l : List (D × D))
  /-- a dict of this name's own, its keys ints and texts -/
  | ok (l : List (D × D))
  /-- a list at c, which a list of lists has -/
  | oa (c : Addr) (l : List D)
deriving Inhabited
def Sl.isOwn : Sl → Bool
  | .own _ => true
  | .obj _ _ _ => true
  | .od _ => true
  | .ok _ => true
  | .oa _ _ => true
  | _ => false
abbrev Env' := List Sl

/-- the thing at a, our own, as the slot says -/
def OwnAt (S : Sx) (I H : Hp) (a : Addr) : Sl → Prop
  | .own l => ∃ vs, H a = some (.lst vs) ∧ Rps S I l vs
  | .obj c ns l => ∃ C dx vs, S.mg c = some (.ref C) ∧ H a = some (.ins C dx (ns.zip vs)) ∧ H dx = some (.own a) ∧ I dx = none ∧ ns.length = vs.length ∧ Rps S I l vs
  | .od l => ∃ xs, H a = some (KDO S.w a xs) ∧ KRd S I l xs
  | .ok l => ∃ xs, H a = some (GDO S.w a xs) ∧ KRk S I l xs
  | .oa c l => a = c ∧ ∃ vs, H a = some (.lst vs) ∧ Rps S I l vs
  | _ => False
/-- where the walk of the running def began -/
structure Cp where
  p : Pt
  i0 : Hp
  h0 : Hp
  self : Addr
  sdx : Addr
def SlR (S : Sx) (κ : Cp) (I H : Hp) : Sl → Option V → Prop
  | .no, _ => True
  | .val d, o => ∃ v, o = some v ∧ Rp S I d v
  | .own l, o => ∃ a, o = some (.ref a) ∧ ¬ Nt κ.h0 a ∧ I a = none ∧ a ≠ S.p.a ∧ OwnAt S I H a (.own l)
  | .obj c ns l, o => ∃ a, o = some (.ref a) ∧ ¬ Nt κ.h0 a ∧ I a = none ∧ a ≠ S.p.a ∧ OwnAt S I H a (.obj c ns l) ∧ a = κ.self ∧ ∀ C dx fs, H a = some (.ins C dx fs) → dx = κ.sdx
  | .od l, o => ∃ a, o = some (.ref a) ∧ ¬ Nt κ.h0 a ∧ I a = none ∧ a ≠ S.p.a ∧ OwnAt S I H a (.od l)
  | .ok l, o => ∃ a, o = some (.ref a) ∧ ¬ Nt κ.h0 a ∧ I a = none ∧ a ≠ S.p.a ∧ OwnAt S I H a (.ok l)
  | .oa c l, o => ∃ a, o = some (.ref a) ∧ ¬ Nt κ.h0 a ∧ I a = none ∧ a ≠ S.p.a ∧ OwnAt S I H a (.oa c l)
structure ER (S : Sx) (κ : Cp) (I H : Hp) (ρ : Env') (σ : St) : Prop where
  len : ρ.length = σ.length
  at_ : ∀ (i : Nat) (s : Sl) (o : Option V), ρ[i]? = some s → σ[i]? = some o → SlR S κ I H s o
  apart : ∀ (i j : Nat) (s t : Sl) (a : Addr), ρ[i]? = some s → ρ[j]? = some t → s.isOwn = true → t.isOwn = true → σ[i]? = some (some (.ref a)) → σ[j]? = some (some (.ref a)) → i = j

theorem OwnAt.stp {S : Sx} {I H I' H' : Hp} {a : Addr} {s : Sl} (x : Stp S I H I' H') (hb : ∃ b, SR S I H b) (hp : a ≠ S.p.a) (h : OwnAt S I H a s) : OwnAt S I' H' a s := by
  cases s with
  | no => exact h.elim
  | val d => exact h.elim
  | own l =>
    obtain ⟨vs, e, r⟩ := h
    exact ⟨vs, x.hh _ _ e hp (fun z => z), r.same x.ii⟩
  | obj c ns l =>
    obtain ⟨C, dx, vs, e1, e2, e3, e4, e5, r⟩ := h
    have hd : dx ≠ S.p.a := fun z => by
      obtain ⟨b, sr⟩ := hb
      obtain ⟨ca, q, e, _⟩ := sr.pen
      rw [z, e] at e3; cases e3
    exact ⟨C, dx, vs, e1, x.hh _ _ e2 hp (fun z => z), x.hh _ _ e3 hd (fun z => z), x.nn _ (nt_own e3) e4, e5, r.same x.ii⟩
  | od l =>
    obtain ⟨vs, e, r⟩ := h
    exact ⟨vs, x.hh _ _ e hp (fun z => z), r.same x.ii⟩
  | ok l =>
    obtain ⟨vs, e, r⟩ := h
    exact ⟨vs, x.hh _ _ e hp (fun z => z), r.same x.ii⟩
  | oa c l =>
    obtain ⟨z, vs, e, r⟩ := h
    exact ⟨z, vs, x.hh _ _ e hp (fun z => z), r.same x.ii⟩
theorem OwnAt.there {S : Sx} {I H : Hp} {a : Addr} {s : Sl} (h : OwnAt S I H a s) : Nt H a := by
  cases s with
  | no => exact h.elim
  | val d => exact h.elim
  | own l => obtain ⟨vs, e, _⟩ := h; exact nt_lst e
  | obj c ns l => obtain ⟨C, dx, vs, _, e, _⟩ := h; exact nt_ins e
  | od l => obtain ⟨vs, e, _⟩ := h; exact ⟨_, e, id⟩
  | ok l => obtain ⟨vs, e, _⟩ := h; exact ⟨_, e, id⟩
  | oa c l => obtain ⟨_, vs, e, _⟩ := h; exact nt_lst e
theorem SlR.stp {S : Sx} {κ : Cp} {I H I' H' : Hp} {s : Sl} {o : Option V} (x : Stp S I H I' H') (hb : ∃ b, SR S I H b) (h : SlR S κ I H s o) : SlR S κ I' H' s o := by
  cases s with
  | no => trivial
  | val d => obtain ⟨v, e, r⟩ := h; exact ⟨v, e, r.same x.ii⟩
  | own l => obtain ⟨a, e, f, n, p, w⟩ := h; exact ⟨a, e, f, x.nn a w.there n, p, w.stp x hb p⟩
  | obj c ns l =>
    obtain ⟨a, e, f, n, p, w, s1, s2⟩ := h
    refine ⟨a, e, f, x.nn a w.there n, p, w.stp x hb p, s1, fun C dx fs q => ?_⟩
    obtain ⟨C', dx', vs, _, e2, _⟩ := w
    rw [x.hh a _ e2 p (fun z => z)] at q
    cases q
    exact s2 _ _ _ e2
  | od l => obtain ⟨a, e, f, n, p, w⟩ := h; exact ⟨a, e, f, x.nn a w.there n, p, w.stp x hb p⟩
  | ok l => obtain ⟨a, e, f, n, p, w⟩ := h; exact ⟨a, e, f, x.nn a w.there n, p, w.stp x hb p⟩
  | oa c l => obtain ⟨a, e, f, n, p, w⟩ := h; exact ⟨a, e, f, x.nn a w.there n, p, w.stp x hb p⟩
theorem ER.stp {S : Sx} {κ : Cp} {I H I' H' : Hp} {ρ : Env'} {σ : St} (x : Stp S I H I' H') (hb : ∃ b, SR S I H b) (h : ER S κ I H ρ σ) : ER S κ I' H' ρ σ :=
  ⟨h.len, fun i s o e1 e2 => (h.at_ i s o e1 e2).stp x hb, h.apart⟩

/-! ### errors -/
/-- the error x: its class, its own dict -/
def XR (S : Sx) (I : Hp) (x : Ex) (cls : Value) (d : Option Addr) : Prop :=
  ∃ C dd vs, S.mg x.cls = some (.ref C) ∧ cls = .ref C ∧ d = some dd ∧ I dd = some (.xd (x.ns.zip vs)) ∧ x.ns.length = vs.length ∧ Rps S I x.vs vs

/-! ### the judgements -/
/-- a value, behind a step -/
def KD (S : Sx) (I H : Hp) (Q : VK) (d : D) (b : Nat) : Prop := ∀ v I' H', Stp S I H I' H' → SR S I' H' b → Rp S I' d v → Q v H'
/-- an error, behind a step -/
def KX (S : Sx) (I H : Hp) (W : Value → Option Addr → Hp → Prop) (x : Ex) (b : Nat) : Prop := ∀ cls d I' H', Stp S I H I' H' → SR S I' H' b → XR S I' x cls d → W cls d H'
abbrev EW := Env' → WP D
/-- the reading of a D-expression -/
def tD (S : Sx) (κ : Cp) (W : WX) (t : EW) : TE := fun σ H Q => ∃ I ρ b, SR S I H b ∧ ER S κ I H ρ σ ∧ (t ρ).run b (KD S I H Q) (KX S I H fun cls d H' => W cls d σ H')
def Sx.of (X : Cx) (κ : Cp) : Sx := ⟨X.K, X.mg, κ.p, X.w⟩
def DE (X : Cx) (κ : Cp) (W : WX) (e : Expr) (t : EW) : Prop := PE X e (tD (Sx.of X κ) κ W t)

theorem KD.mono {S : Sx} {I H I1 H1 : Hp} {Q : VK} {d : D} {b : Nat} (x : Stp S I H I1 H1) (k : KD S I H Q d b) : KD S I1 H1 Q d b := fun v I' H' y s r => k v I' H' (x.trans y) s r
theorem KX.mono {S : Sx} {I H I1 H1 : Hp} {W : Value → Option Addr → Hp → Prop} {d : Ex} {b : Nat} (x : Stp S I H I1 H1) (k : KX S I H W d b) : KX S I1 H1 W d b := fun c dd I' H' y s r => k c dd I' H' (x.trans y) s r

theorem PE.imp {X : Cx} {e : Expr} {t t' : TE} (h : PE X e t) (i : ∀ σ H Q, t' σ H Q → t σ H Q) : PE X e t' := ⟨fun pins s σ H Q I hq => h.run pins s σ H Q I (i σ H Q hq)⟩
theorem PT.imp {X : Cx} {e : Expr} {t t' : TT} (h : PT X e t) (i : ∀ σ H Q, t' σ H Q → t σ H Q) : PT X e t' := ⟨fun pins s σ H Q I hq => h.run pins s σ H Q I (i σ H Q hq)⟩
theorem PS.imp {X : Cx} {e : Stmt} {t t' : TS} (h : PS X e t) (i : ∀ D σ H, t' D σ H → t D σ H) : PS X e t' := ⟨fun pins s σ H D I hq => h.run pins s σ H D I (i D σ H hq)⟩
theorem PSs.imp {X : Cx} {e : List Stmt} {t t' : TS} (h : PSs X e t) (i : ∀ D σ H, t' D σ H → t D σ H) : PSs X e t' := ⟨fun pins s σ H D I hq => h.run pins s σ H D I (i D σ H hq)⟩
theorem PA.imp {X : Cx} {e : List Expr} {t t' : TA} (h : PA X e t) (i : ∀ σ H Q, t' σ H Q → t σ H Q) : PA X e t' := ⟨fun pos pins s σ H Q I hq => h.run pos pins s σ H Q I (i σ H Q hq)⟩
theorem PC.imp {X : Cx} {op : CmpOp} {a b : Expr} {t t' : TE} (h : PC X op a b t) (i : ∀ σ H Q, t' σ H Q → t σ H Q) : PC X op a b t' := ⟨fun pins s σ H Q I hq => h.run pins s σ H Q I (i σ H Q hq)⟩
end L2.NW
end
section
set_option Elab.async false
set_option autoImplicit false
set_option linter.all false
set_option maxRecDepth 100000
/-! NwC: expressions. -/
namespace L2.NW
open PySem PySem.Spec PyProof.Rows
/-! ### lists of arguments -/
def KDs (S : Sx) (I H : Hp) (Q : List V → Hp → Prop) (d : List D) (b : Nat) : Prop := ∀ v I' H', Stp S I H I' H' → SR S I' H' b → Rps S I' d v → Q v H'
theorem KDs.mono {S : Sx} {I H I1 H1 : Hp} {Q : List V → Hp → Prop} {d : List D} {b : Nat} (x : Stp S I H I1 H1) (k : KDs S I H Q d b) : KDs S I1 H1 Q d b := fun v I' H' y s r => k v I' H' (x.trans y) s r
abbrev AW := Env' → WP (List D)
def tDA (S : Sx) (κ : Cp) (W : WX) (t : AW) : TA := fun σ H Q => ∃ I ρ b, SR S I H b ∧ ER S κ I H ρ σ ∧ (t ρ).run b (KDs S I H Q) (KX S I H fun cls d H' => W cls d σ H')
def DA (X : Cx) (κ : Cp) (W : WX) (e : List Expr) (t : AW) : Prop := PA X e (tDA (Sx.of X κ) κ W t)
/-- a test -/
def KB (S : Sx) (I H : Hp) (Q : Bool → Hp → Prop) (d : Bool) (b : Nat) : Prop := ∀ I' H', Stp S I H I' H' → SR S I' H' b → Q d H'
theorem KB.mono {S : Sx} {I H I1 H1 : Hp} {Q : Bool → Hp → Prop} {d : Bool} {b : Nat} (x : Stp S I H I1 H1) (k : KB S I H Q d b) : KB S I1 H1 Q d b := fun I' H' y s => k I' H' (x.trans y) s
abbrev BW := Env' → WP Bool
def tDT (S : Sx) (κ : Cp) (W : WX) (t : BW) : TT := fun σ H Q => ∃ I ρ b, SR S I H b ∧ ER S κ I H ρ σ ∧ (t ρ).run b (KB S I H Q) (KX S I H fun cls d H' => W cls d σ H')
def DT (X : Cx) (κ : Cp) (W : WX) (e : Expr) (t : BW) : Prop := PT X e (tDT (Sx.of X κ) κ W t)

section
variable {S : Sx} {κ : Cp} {W : WX} {σ : St} {H : Hp}
/-- one piece, then another -/
theorem tD_bind {α : Type} {ta : EW} {f : D → WP α} {Q : VK} {I : Hp} {ρ : Env'} {b : Nat} {Z : α → Nat → Prop} (sr : SR S I H b) (er : ER S κ I H ρ σ) (h : (ta ρ >>= f).run b Z (KX S I H fun cls d H' => W cls d σ H'))
    (k : ∀ d b' v I' H', Stp S I H I' H' → SR S I' H' b' → ER S κ I' H' ρ σ → Rp S I' d v → (f d).run b' Z (KX S I' H' fun cls d H' => W cls d σ H') → Q v H') : tD S κ W ta σ H Q :=
  ⟨I, ρ, b, sr, er, (ta ρ).mono h (fun d b' h' v I' H' x s r => k d b' v I' H' x s (er.stp x ⟨_, sr⟩) r ((f d).mono h' (fun _ _ z => z) fun _ _ z => z.mono x)) fun _ _ z => z⟩
theorem tDT_bind {α : Type} {ta : BW} {f : Bool → WP α} {Q : Bool → Hp → Prop} {I : Hp} {ρ : Env'} {b : Nat} {Z : α → Nat → Prop} (sr : SR S I H b) (er : ER S κ I H ρ σ) (h : (ta ρ >>= f).run b Z (KX S I H fun cls d H' => W cls d σ H'))
    (k : ∀ d b' I' H', Stp S I H I' H' → SR S I' H' b' → ER S κ I' H' ρ σ → (f d).run b' Z (KX S I' H' fun cls d H' => W cls d σ H') → Q d H') : tDT S κ W ta σ H Q :=
  ⟨I, ρ, b, sr, er, (ta ρ).mono h (fun d b' h' I' H' x s => k d b' I' H' x s (er.stp x ⟨_, sr⟩) ((f d).mono h' (fun _ _ z => z) fun _ _ z => z.mono x)) fun _ _ z => z⟩
theorem tDA_bind {α : Type} {ta : AW} {f : List D → WP α} {Q : List V → Hp → Prop} {I : Hp} {ρ : Env'} {b : Nat} {Z : α → Nat → Prop} (sr : SR S I H b) (er : ER S κ I H ρ σ) (h : (ta ρ >>= f).run b Z (KX S I H fun cls d H' => W cls d σ H'))
    (k : ∀ d b' v I' H', Stp S I H I' H' → SR S I' H' b' → ER S κ I' H' ρ σ → Rps S I' d v → (f d).run b' Z (KX S I' H' fun cls d H' => W cls d σ H') → Q v H') : tDA S κ W ta σ H Q :=
  ⟨I, ρ, b, sr, er, (ta ρ).mono h (fun d b' h' v I' H' x s r => k d b' v I' H' x s (er.stp x ⟨_, sr⟩) r ((f d).mono h' (fun _ _ z => z) fun _ _ z => z.mono x)) fun _ _ z => z⟩
end
section
variable {X : Cx} {κ : Cp} {W : WX} {e a b : Expr} {es : List Expr} {pos : Pos}
/-! ### names, constants -/
def eVar (i : Nat) : EW := fun ρ => match ρ[i]? with
  | some (.val d) => pure d
  | _ => WP.bad
theorem de_var {i : Nat} {x : Str} (h : PE X (.Name x pos) (tVar i)) : DE X κ W (.Name x pos) (eVar i) :=
  PE.imp h fun σ H Q ⟨I, ρ, b, sr, er, r⟩ => by
    unfold eVar at r
    split at r
    · rename_i d e
      have hi : i < ρ.length := (List.getElem?_eq_some_iff.mp e).1
      have hs : i < σ.length := er.len ▸ hi
      obtain ⟨v, e2, rp⟩ := er.at_ i _ _ e (List.getElem?_eq_getElem hs)
      exact ⟨v, by rw [List.getElem?_eq_getElem hs, e2], r v I H .refl sr rp⟩
    · exact r.elim
def eC (d : D) : EW := fun _ => pure d
theorem de_const {v : V} {d : D} (h : PE X e (tC v)) (hr : ∀ I, Rp (Sx.of X κ) I d v) : DE X κ W e (eC d) :=
  PE.imp h fun σ H Q ⟨I, ρ, b, sr, er, r⟩ => r v I H .refl sr (hr I)
theorem de_int {i : Int} {j : Nat} : DE X κ W (.Constant (.int i) j pos) (eC (.int i)) := de_const pe_int fun _ => by simp [Rp]
theorem de_bl {i : Bool} {j : Nat} : DE X κ W (.Constant (.bool i) j pos) (eC (.bl i)) := de_const pe_bl fun _ => by simp [Rp]
theorem de_non {j : Nat} : DE X κ W (.Constant .none j pos) (eC .non) := de_const pe_non fun _ => by simp [Rp]
theorem de_str {i : Str} {j : Nat} : DE X κ W (.Constant (.str i) j pos) (eC (.str i)) := de_const pe_str fun _ => by simp [Rp]
/-! ### two-place and one-place operations -/
/-- r does on values what f says of data -/
def Op2 (S : Sx) (r : R2) (f : D → D → WP D) : Prop := ∀ I H b x y v u Q E, SR S I H b → Rp S I x v → Rp S I y u → (f x y).run b (KD S I H Q) E → r v u H Q
def e2 (f : D → D → WP D) (ta tb : EW) : EW := fun ρ => do let x ← ta ρ; let y ← tb ρ; f x y
theorem tD2 {S : Sx} {r : R2} {f : D → D → WP D} (o : Op2 S r f) {ta tb : EW} (σ : St) (H : Hp) (Q : VK) (h : tD S κ W (e2 f ta tb) σ H Q) : tOp r (tD S κ W ta) (tD S κ W tb) σ H Q := by
  obtain ⟨I, ρ, b, sr, er, h⟩ := h
  refine tD_bind sr er h fun d b1 v I1 H1 x1 s1 er1 r1 h1 => ?_
  refine tD_bind s1 er1 h1 fun d2 b2 u I2 H2 x2 s2 er2 r2 h2 => ?_
  exact o I2 H2 b2 d d2 v u Q _ s2 (r1.same x2.ii) r2 ((f d d2).mono h2 (fun _ _ z => (KD.mono x1 z).mono x2) fun _ _ z => z)
theorem de_op {op : Operator} {r : R2} {f : D → D → WP D} {ta tb : EW} (hr : OpR X (binaryOp op) r) (o : Op2 (Sx.of X κ) r f) (ha : DE X κ W a ta) (hb : DE X κ W b tb) : DE X κ W (.BinOp a op b pos) (e2 f ta tb) :=
  PE.imp (pe_op hr ha hb) (tD2 o)
theorem de_cmp {op : CmpOp} {r : R2} {f : D → D → WP D} {ta tb : EW} (hr : OpR X (compareOp op) r) (o : Op2 (Sx.of X κ) r f) (ha : DE X κ W a ta) (hb : DE X κ W b tb) (hm : behindInMarks op b = false) : DE X κ W (.Compare a [op] [b] pos) (e2 f ta tb) :=
  PE.imp (pe_cmpR hr ha hb hm) (tD2 o)
theorem de_ix {r : R2} {f : D → D → WP D} {ta tb : EW} (hr : IxR X r) (o : Op2 (Sx.of X κ) r f) (ha : DE X κ W a ta) (hb : DE X κ W b tb) (hs : PlainIx b) : DE X κ W (.Subscript a b pos) (e2 f ta tb) :=
  PE.imp (pe_ix hr ha hb hs) (tD2 o)
def Op1 (S : Sx) (r : V → Hp → VK → Prop) (f : D → WP D) : Prop := ∀ I H b x v Q E, SR S I H b → Rp S I x v → (f x).run b (KD S I H Q) E → r v H Q
def e1 (f : D → WP D) (ta : EW) : EW := fun ρ => do let x ← ta ρ; f x
theorem de_un {op : UnaryOp} {r : V → Hp → VK → Prop} {f : D → WP D} {ta : EW} (hr : UnR X (unaryOp op) r) (o : Op1 (Sx.of X κ) r f) (ha : DE X κ W a ta) : DE X κ W (.UnaryOp op a pos) (e1 f ta) :=
  PE.imp (pe_un hr ha) fun σ H Q ⟨I, ρ, b, sr, er, h⟩ => tD_bind sr er h fun d b1 v I1 H1 x1 s1 er1 r1 h1 => o I1 H1 b1 d v Q _ s1 r1 ((f d).mono h1 (fun _ _ z => KD.mono x1 z) fun _ _ z => z)
theorem OpR.or {f : Value → Value → Sem Value} {r r' : R2} (h : OpR X f r) (h' : OpR X f r') : OpR X f (fun x y H Q => r x y H Q ∨ r' x y H Q) := fun pins s σ H x y v u Q I rx ry q =>
  q.elim (fun q => h pins s σ H x y v u Q I rx ry q) fun q => h' pins s σ H x y v u Q I rx ry q

/-! ### tests -/
theorem dt_val {t : EW} (h : DE X κ W e t) (he : ∀ whole, isTrue e X.env whole = (do let v ← whole; standAt e.pos; holding [v] (truthy v)) := by intro _; rfl) :
    DT X κ W e (fun ρ => do let d ← t ρ; match d with | .bl b => pure b | _ => WP.bad) :=
  PT.imp (pt_val h he) fun σ H Q ⟨I, ρ, b, sr, er, h⟩ => tD_bind sr er h fun d b1 v I1 H1 x1 s1 er1 r1 h1 => by
    cases d with
    | bl k =>
      simp only [Rp] at r1
      exact ⟨k, r1, h1 I1 H1 x1 s1⟩
    | _ => exact h1.elim
def tst (d : D) : WP Bool := match d with
  | .bl b => pure b
  | _ => WP.bad
theorem dt_cmp {op : CmpOp} {r : R2} {f : D → D → WP D} {ta tb : EW} (hr : OpR X (compareOp op) r) (o : Op2 (Sx.of X κ) r f) (ha : DE X κ W a ta) (hb : DE X κ W b tb) (hm : behindInMarks op b = false) :
    DT X κ W (.Compare a [op] [b] pos) (fun ρ => e2 f ta tb ρ >>= tst) :=
  PT.imp (pt_cmpR hr ha hb hm) fun σ H Q ⟨I, ρ, b, sr, er, h⟩ => by
    refine tD2 o σ H _ (tD_bind sr er h fun d b1 v I1 H1 x1 s1 er1 r1 h1 => ?_)
    cases d with
    | bl k =>
      simp only [Rp] at r1
      exact ⟨k, r1, h1 I1 H1 x1 s1⟩
    | _ => exact h1.elim
variable {tA tB : BW}
theorem dt_not (ha : DT X κ W a tA) : DT X κ W (.UnaryOp .Not a pos) (fun ρ => do let c ← tA ρ; pure (!c)) :=
  PT.imp (pt_not ha) fun σ H Q ⟨I, ρ, b, sr, er, h⟩ => tDT_bind sr er h fun d b1 I1 H1 x1 s1 er1 h1 => h1 I1 H1 x1 s1
def DW (X : Cx) (κ : Cp) (W : WX) (e : Expr) (t : BW) : Prop := PW X e (tDT (Sx.of X κ) κ W t)
theorem PW.imp {X : Cx} {e : Expr} {t t' : TT} (h : PW X e t) (i : ∀ σ H Q, t' σ H Q → t σ H Q) : PW X e t' := ⟨fun wh pins s σ H Q I hq => h.run wh pins s σ H Q I (i σ H Q hq)⟩
theorem dw_or1 (ha : DT X κ W a tA) : DW X κ W (.BoolOp .Or [a] pos) tA := pw_or1 ha
theorem dw_or {rest : List Expr} (ha : DT X κ W a tA) (hb : DW X κ W (.BoolOp .Or (b :: rest) pos) tB) : DW X κ W (.BoolOp .Or (a :: b :: rest) pos) (fun ρ => do let c ← tA ρ; if c then pure true else tB ρ) :=
  PW.imp (pw_or ha hb) fun σ H Q ⟨I, ρ, b, sr, er, h⟩ => tDT_bind sr er h fun d b1 I1 H1 x1 s1 er1 h1 => by
    cases d with
    | true => exact iteT (h1 I1 H1 x1 s1)
    | false => exact iteF ⟨I1, ρ, b1, s1, er1, (tB ρ).mono h1 (fun _ _ z => KB.mono x1 z) fun _ _ z => z⟩
theorem dt_w (h : DW X κ W e tA) : DT X κ W e tA := PW.pt h

/-! ### and, or, not, a if t else b as values -/
theorem de_one {op : BoolOp} {t : EW} (h : DE X κ W a t) : DE X κ W (.BoolOp op [a] pos) t := pe_one h
theorem de_and {ta tb : EW} {rest : List Expr} (ha : DE X κ W a ta) (hb : DE X κ W (.BoolOp .And (b :: rest) pos) tb) : DE X κ W (.BoolOp .And (a :: b :: rest) pos) (fun ρ => do let d ← ta ρ; let c ← tst d; if c then tb ρ else pure (.bl false)) :=
  PE.imp (pe_and ha hb) fun σ H Q ⟨I, ρ, b, sr, er, h⟩ => tD_bind sr er h fun d b1 v I1 H1 x1 s1 er1 r1 h1 => by
    cases d with
    | bl k =>
      simp only [Rp] at r1
      refine ⟨k, r1, ?_⟩
      cases k with
      | true => exact iteT ⟨I1, ρ, b1, s1, er1, (tb ρ).mono h1 (fun _ _ z => KD.mono x1 z) fun _ _ z => z⟩
      | false => exact iteF (h1 _ I1 H1 x1 s1 (by simp [Rp]))
    | _ => exact h1.elim
theorem de_not {ta : EW} (ha : DE X κ W a ta) : DE X κ W (.UnaryOp .Not a pos) (fun ρ => do let d ← ta ρ; let c ← tst d; pure (.bl (!c))) :=
  PE.imp (pe_not ha) fun σ H Q ⟨I, ρ, b, sr, er, h⟩ => tD_bind sr er h fun d b1 v I1 H1 x1 s1 er1 r1 h1 => by
    cases d with
    | bl k =>
      simp only [Rp] at r1
      exact ⟨k, r1, h1 _ I1 H1 x1 s1 (by simp [Rp])⟩
    | _ => exact h1.elim
/-! ### arguments, displays -/
theorem da_nil : DA X κ W [] (fun _ => pure []) := PA.imp pa_nil fun σ H Q ⟨I, ρ, b, sr, er, h⟩ => h [] I H .refl sr Rps.nil
theorem da_cons {t : EW} {ts : AW} (ha : DE X κ W e t) (hr : DA X κ W es ts) (hs : starEach (e :: es) X.env = (false, eval e X.env) :: starEach es X.env := by rfl) :
    DA X κ W (e :: es) (fun ρ => do let x ← t ρ; let xs ← ts ρ; pure (x :: xs)) :=
  PA.imp (pa_cons ha hr hs) fun σ H Q ⟨I, ρ, b, sr, er, h⟩ => by
    refine tD_bind sr er h fun d b1 v I1 H1 x1 s1 er1 r1 h1 => ?_
    refine tDA_bind s1 er1 h1 fun d2 b2 u I2 H2 x2 s2 er2 r2 h2 => ?_
    exact h2 (v :: u) I2 H2 (x1.trans x2) s2 (.cons (r1.same x2.ii) r2)
theorem Rp.tup {S : Sx} {I H : Hp} {l : List D} {vs : List V} {a : Addr} (sub : Same I H) (h : H a = none) (r : Rps S I l vs) : Rp S (upd I a (.tup vs)) (.tup l) (.ref a) := by
  simp only [Rp]
  exact ⟨a, vs, rfl, SqT.of upd_same, r.same fun b o e => by rw [upd_ne (ne_of_none e (sub.free h))]; exact e⟩
theorem Rp.lst {S : Sx} {I H : Hp} {l : List D} {vs : List V} {a : Addr} (sub : Same I H) (h : H a = none) (r : Rps S I l vs) : Rp S (upd I a (.lst vs)) (.lst l) (.ref a) := by
  simp only [Rp]
  exact ⟨a, vs, rfl, upd_same, r.same fun b o e => by rw [upd_ne (ne_of_none e (sub.free h))]; exact e⟩
theorem de_tup {ts : AW} {x1 : Nat} (h : DA X κ W es ts) : DE X κ W (.Tuple es x1 pos) (fun ρ => do let xs ← ts ρ; WP.need (xs.length ≤ sizeLine) (pure (.tup xs))) :=
  PE.imp (pe_tup h) fun σ H Q ⟨I, ρ, b, sr, er, h⟩ => tDA_bind sr er h fun d b1 v I1 H1 x1 s1 er1 r1 ⟨hz, h1⟩ =>
    ⟨r1.len ▸ hz, fun q hq => h1 _ (upd I1 q (.tup v)) (upd H1 q (.tup v)) (x1.trans (.new s1.sub hq)) (s1.new hq) (.tup s1.sub hq r1)⟩
/-! ### built-in functions by their names -/
def Cl (S : Sx) (r : List V → Hp → VK → Prop) (f : List D → WP D) : Prop := ∀ I H b x v Q E, SR S I H b → Rps S I x v → (f x).run b (KD S I H Q) E → r v H Q
theorem tDC {S : Sx} {r : List V → Hp → VK → Prop} {f : List D → WP D} (o : Cl S r f) {ts : AW} (σ : St) (H : Hp) (Q : VK) (h : tD S κ W (fun ρ => do let xs ← ts ρ; f xs) σ H Q) : tCB r (tDA S κ W ts) σ H Q := by
  obtain ⟨I, ρ, b, sr, er, h⟩ := h
  exact tDA_bind sr er h fun d b1 v I1 H1 x1 s1 er1 r1 h1 => o I1 H1 b1 d v Q _ s1 r1 ((f d).mono h1 (fun _ _ z => KD.mono x1 z) fun _ _ z => z)
variable {x : Str} {pn : Pos} {id T : String} {r : List V → Hp → VK → Prop} {f : List D → WP D} {ts : AW}
theorem de_callB (hc : CallR X (.builtin id) r) (o : Cl (Sx.of X κ) r f) (hg : Gl X x) (hm : X.mg x = none) (hv : bootBuiltins x = some (.builtin id)) (ha : DA X κ W (e :: es) ts) (hn : x ≠ "__name__" := by decide) (hdb : (x == ("__debug__" : Str)) = false := by decide)
    (he : starEach (e :: es) X.env = (false, eval e X.env) :: starEach es X.env := by rfl) (hpl : (backTo pos (starEach es X.env)).any (·.1) = false := by rfl) : DE X κ W (.Call (.Name x pn) (e :: es) [] pos) (fun ρ => do let xs ← ts ρ; f xs) :=
  PE.imp (pe_callB hc hg hm hv ha hn hdb he hpl) (tDC o)
theorem de_callTy (hc : CallR X (.type T) r) (o : Cl (Sx.of X κ) r f) (hg : Gl X x) (hm : X.mg x = none) (hv : bootBuiltins x = some (.type T)) (ha : DA X κ W (e :: es) ts) (hn : x ≠ "__name__" := by decide) (hdb : (x == ("__debug__" : Str)) = false := by decide)
    (he : starEach (e :: es) X.env = (false, eval e X.env) :: starEach es X.env := by rfl) (hpl : (backTo pos (starEach es X.env)).any (·.1) = false := by rfl) : DE X κ W (.Call (.Name x pn) (e :: es) [] pos) (fun ρ => do let xs ← ts ρ; f xs) :=
  PE.imp (pe_callTy hc hg hm hv ha hn hdb he hpl) (tDC o)
end
end L2.NW
end
section
set_option Elab.async false
set_option autoImplicit false
set_option linter.all false
set_option maxRecDepth 100000
/-! NwD: the operations. -/
namespace L2.NW
open PySem PySem.Spec PyProof.Rows
/-! ### data as the library's data, for == -/
mutual
def D.py : D → PyData
  | .non => .none
  | .bl b => .bool b
  | .int i => .int i
  | .str s => .str s
  | .tup l => .tuple (D.pys l)
  | .lst l => .list (D.pys l)
  | .ins _ _ _ => .none
  | .pen => .none
  | .raw _ => .none
  | .dic _ => .none
  | .fn _ => .none
  | .exc _ _ _ => .none
  | .dct _ _ => .none
def D.pys : List D → List PyData
  | [] => []
  | d :: l => d.py :: D.pys l
end
mutual
/-- plain data, n deep at most -/
def D.deep : Nat → D → Prop
  | _, .non => True
  | _, .bl _ => True
  | _, .int _ => True
  | _, .str s => PyData.strOk s = true
  | n, .tup l => ∃ m, n = m + 1 ∧ D.deeps m l
  | n, .lst l => ∃ m, n = m + 1 ∧ D.deeps m l
  | _, .ins _ _ _ => False
  | _, .pen => False
  | _, .raw _ => False
  | _, .dic _ => False
  | _, .fn _ => False
  | _, .exc _ _ _ => False
  | _, .dct _ _ => False
def D.deeps : Nat → List D → Prop
  | _, [] => True
  | n, d :: l => D.deep n d ∧ D.deeps n l
end
theorem D.deeps_iff {n : Nat} : ∀ {l : List D}, D.deeps n l ↔ ∀ d ∈ l, D.deep n d
  | [] => by simp [D.deeps]
  | d :: l => by simp [D.deeps, D.deeps_iff (l := l)]
theorem D.pys_map : ∀ l : List D, D.pys l = l.map D.py
  | [] => by simp [D.pys]
  | d :: l => by simp [D.pys, D.pys_map l]
mutual
theorem D.lay : ∀ (n : Nat) (d : D), D.deep n d → d.py.canLay0 = true ∧ d.py.depth ≤ n
  | n, .non, _ => by simp [D.py, PyData.canLay0, PyData.depth]
  | n, .bl _, _ => by simp [D.py, PyData.canLay0, PyData.depth]
  | n, .int _, _ => by simp [D.py, PyData.canLay0, PyData.depth]
  | n, .str _, h => by simp only [D.deep] at h; simp [D.py, PyData.canLay0, PyData.depth, h]
  | n, .tup l, h => by
    simp only [D.deep] at h
    obtain ⟨m, rfl, h⟩ := h
    obtain ⟨h1, h2⟩ := D.lays m l h
    simp only [D.py, PyData.canLay0, PyData.depth]
    exact ⟨h1, by omega⟩
  | n, .lst l, h => by
    simp only [D.deep] at h
    obtain ⟨m, rfl, h⟩ := h
    obtain ⟨h1, h2⟩ := D.lays m l h
    simp only [D.py, PyData.canLay0, PyData.depth]
    exact ⟨h1, by omega⟩
  | n, .ins _ _ _, h => by simp only [D.deep] at h
  | n, .pen, h => by simp only [D.deep] at h
  | n, .raw _, h => by simp only [D.deep] at h
  | n, .dic _, h => by simp only [D.deep] at h
  | n, .fn _, h => by simp only [D.deep] at h
  | n, .exc _ _ _, h => by simp only [D.deep] at h
  | n, .dct _ _, h => by simp only [D.deep] at h
theorem D.lays : ∀ (n : Nat) (l : List D), D.deeps n l → PyData.canLayAll0 (D.pys l) = true ∧ PyData.depthAll (D.pys l) ≤ n
  | n, [], _ => by simp [D.pys, PyData.canLayAll0, PyData.depthAll]
  | n, d :: l, h => by
    simp only [D.deeps] at h
    obtain ⟨h1, h2⟩ := D.lay n d h.1
    obtain ⟨h3, h4⟩ := D.lays n l h.2
    simp only [D.pys, PyData.canLayAll0, PyData.depthAll, h1, h3, Bool.and_self, true_and]
    omega
end
theorem D.shaped {d : D} (h : D.deep 64 d) : SeqAt.shaped d.py = true := by
  obtain ⟨h1, h2⟩ := D.lay 64 d h
  show (d.py.canLay0 && decide (d.py.depth ≤ 64)) = true
  rw [h1, decide_eq_true h2]
  rfl
mutual
theorem D.dp {S : Sx} {I H : Hp} (sub : Same I H) : ∀ (n : Nat) (d : D) (v : V), D.deep n d → Rp S I d v → Dp S.K H v d.py
  | n, .non, v, _, r => by simp only [Rp] at r; subst r; simp only [D.py]; exact .non
  | n, .bl _, v, _, r => by simp only [Rp] at r; subst r; simp only [D.py]; exact .bl _
  | n, .int _, v, _, r => by simp only [Rp] at r; subst r; simp only [D.py]; exact .int _
  | n, .str _, v, _, r => by simp only [Rp] at r; subst r; simp only [D.py]; exact .str _
  | n, .tup l, v, h, r => by
    simp only [D.deep] at h
    obtain ⟨m, rfl, h⟩ := h
    simp only [Rp] at r
    obtain ⟨a, vs, rfl, r1, r2⟩ := r
    simp only [D.py]
    exact .tup (SqT_same sub r1) (D.dps sub m l vs h r2)
  | n, .lst l, v, h, r => by
    simp only [D.deep] at h
    obtain ⟨m, rfl, h⟩ := h
    simp only [Rp] at r
    obtain ⟨a, vs, rfl, r1, r2⟩ := r
    simp only [D.py]
    exact .lst (SqL.of (sub _ _ r1)) (D.dps sub m l vs h r2)
  | n, .ins _ _ _, v, h, _ => by simp only [D.deep] at h
  | n, .pen, v, h, _ => by simp only [D.deep] at h
  | n, .raw _, v, h, _ => by simp only [D.deep] at h
  | n, .dic _, v, h, _ => by simp only [D.deep] at h
  | n, .fn _, v, h, _ => by simp only [D.deep] at h
  | n, .exc _ _ _, v, h, _ => by simp only [D.deep] at h
  | n, .dct _ _, v, h, _ => by simp only [D.deep] at h
theorem D.dps {S : Sx} {I H : Hp} (sub : Same I H) : ∀ (n : Nat) (l : List D) (vs : List V), D.deeps n l → Rps S I l vs → DpAll S.K H vs (D.pys l)
  | n, [], vs, _, r => by simp only [Rps] at r; subst r; simp only [D.pys]; exact .nil
  | n, d :: l, vs, h, r => by
    simp only [D.deeps] at h
    simp only [Rps] at r
    obtain ⟨v, ws, rfl, r1, r2⟩ := r
    simp only [D.pys]
    exact .cons (D.dp sub n d v h.1 r1) (D.dps sub n l ws h.2 r2)
end
/-- == of data -/
def D.eq (x y : D) : Bool := PyData.eqv x.py y.py

/-! ### what the operations do -/
def i2 (C : Int → Int → Prop) (g : Int → Int → D) (x y : D) : WP D := match x, y with
  | .int i, .int j => WP.need (C i j) (pure (g i j))
  | _, _ => WP.bad
def addD (x y : D) : WP D := match x, y with
  | .int i, .int j => pure (.int (i + j))
  | .tup l, .tup m => WP.need (l.length + m.length ≤ sizeLine) (pure (.tup (l ++ m)))
  | .lst l, .lst m => WP.need (l.length + m.length ≤ sizeLine) (pure (.lst (l ++ m)))
  | _, _ => WP.bad
def subD : D → D → WP D := i2 (fun _ _ => True) fun i j => .int (i - j)
def mulI : D → D → WP D := i2 CMul fun i j => .int (i * j)
def fdivD : D → D → WP D := i2 CDiv fun i j => .int (i / j)
def modD : D → D → WP D := i2 (fun _ j => 0 < j) fun i j => .int (i % j)
def shlD : D → D → WP D := i2 CPow fun i j => .int (i * 2 ^ j.toNat)
def shrD : D → D → WP D := i2 (fun _ j => 0 ≤ j) fun i j => .int (i / 2 ^ j.toNat)
def andD : D → D → WP D := i2 (fun _ _ => True) fun i j => .int (Builtin.bitAnd i j)
def ltD : D → D → WP D := i2 (fun _ _ => True) fun i j => .bl (decide (i < j))
def leD : D → D → WP D := i2 (fun _ _ => True) fun i j => .bl (decide (i ≤ j))
def gtD : D → D → WP D := i2 (fun _ _ => True) fun i j => .bl (decide (j < i))
def geD : D → D → WP D := i2 (fun _ _ => True) fun i j => .bl (decide (j ≤ i))
def eqD (x y : D) : WP D := WP.need (D.deep 64 x ∧ D.deep 64 y) (pure (.bl (D.eq x y)))
def neD (x y : D) : WP D := WP.need (D.deep 64 x ∧ D.deep 64 y) (pure (.bl (!D.eq x y)))
def isNone : D → Bool
  | .non => true
  | _ => false
def isND (x y : D) : WP D := match x, y with
  | .raw _, _ => WP.bad
  | x, .non => pure (.bl (isNone x))
  | _, _ => WP.bad
def notND (x y : D) : WP D := match x, y with
  | .raw _, _ => WP.bad
  | x, .non => pure (.bl (!isNone x))
  | _, _ => WP.bad
def ixD (x y : D) : WP D := match x, y with
  | .tup l, .int i => match atI l i with
    | some d => pure d
    | none => WP.bad
  | .lst l, .int i => match atI l i with
    | some d => pure d
    | none => WP.bad
  | _, _ => WP.bad
def negD (x : D) : WP D := match x with
  | .int i => pure (.int (-i))
  | _ => WP.bad

section
variable {S : Sx}
theorem o2_i {C : Int → Int → Prop} {g : Int → Int → V} {h : Int → Int → D} (e : ∀ I i j, Rp S I (h i j) (g i j)) : Op2 S (rI C g) (i2 C h) := by
  intro I H b x y v u Q E sr rx ry k
  cases x <;> cases y <;> first | exact k.elim | skip
  simp only [Rp] at rx ry
  exact ⟨_, _, rx, ry, k.1, k.2 _ I H .refl sr (e I _ _)⟩
theorem o2_i0 {g : Int → Int → V} {h : Int → Int → D} (e : ∀ I i j, Rp S I (h i j) (g i j)) : Op2 S (rI0 g) (i2 (fun _ _ => True) h) := by
  intro I H b x y v u Q E sr rx ry k
  cases x <;> cases y <;> first | exact k.elim | skip
  simp only [Rp] at rx ry
  exact ⟨_, _, rx, ry, k.2 _ I H .refl sr (e I _ _)⟩
theorem rp_none {I : Hp} {d : D} {v : V} (r : Rp S I d v) (h : ∀ w, d ≠ .raw w) : decide (v = .non) = isNone d := by
  cases d with
  | non => simp only [Rp] at r; subst r; rfl
  | bl _ => simp only [Rp] at r; subst r; rfl
  | int _ => simp only [Rp] at r; subst r; rfl
  | str _ => simp only [Rp] at r; subst r; rfl
  | tup _ => simp only [Rp] at r; obtain ⟨a, vs, rfl, _⟩ := r; rfl
  | lst _ => simp only [Rp] at r; obtain ⟨a, vs, rfl, _⟩ := r; rfl
  | ins _ _ _ => simp only [Rp] at r; obtain ⟨a, _, _, _, rfl, _⟩ := r; rfl
  | pen => simp only [Rp] at r; subst r; rfl
  | raw w => exact absurd rfl (h w)
  | dic a => simp only [Rp] at r; obtain ⟨rfl, _⟩ := r; rfl
  | fn j => simp only [Rp] at r; obtain ⟨f, rfl⟩ := r.ref; rfl
  | dct ks vs => simp only [Rp] at r; obtain ⟨a, _, rfl, _⟩ := r; rfl
  | exc c ns l => simp only [Rp] at r; obtain ⟨a, C, rfl, _⟩ := r; rfl
theorem o2_isN : Op2 S (fun x y H Q => y = .non ∧ Q (.bl (decide (x = .non))) H) isND := by
  intro I H b x y v u Q E sr rx ry k
  have hy : y = .non := by
    cases y <;> first | rfl | (cases x <;> exact k.elim)
  subst hy
  simp only [Rp] at ry
  subst ry
  refine ⟨rfl, ?_⟩
  cases x with
  | raw w => exact k.elim
  | _ => exact (by rw [rp_none rx (fun w z => nomatch z)]; exact k _ I H .refl sr (by simp [Rp, isNone]))
theorem o2_notN : Op2 S (fun x y H Q => y = .non ∧ Q (.bl (!decide (x = .non))) H) notND := by
  intro I H b x y v u Q E sr rx ry k
  have hy : y = .non := by
    cases y <;> first | rfl | (cases x <;> exact k.elim)
  subst hy
  simp only [Rp] at ry
  subst ry
  refine ⟨rfl, ?_⟩
  cases x with
  | raw w => exact k.elim
  | _ => exact (by rw [rp_none rx (fun w z => nomatch z)]; exact k _ I H .refl sr (by simp [Rp, isNone]))
theorem o2_eq : Op2 S (rEqD S.K) eqD := by
  intro I H b x y v u Q E sr rx ry k
  obtain ⟨⟨hx, hy⟩, k⟩ := k
  exact ⟨x.py, y.py, D.dp sr.sub 64 x v hx rx, D.dp sr.sub 64 y u hy ry, D.shaped hx, D.shaped hy, k _ I H .refl sr (by simp [Rp, D.eq])⟩
theorem o2_ne : Op2 S (rNeD S.K) neD := by
  intro I H b x y v u Q E sr rx ry k
  obtain ⟨⟨hx, hy⟩, k⟩ := k
  exact ⟨x.py, y.py, D.dp sr.sub 64 x v hx rx, D.dp sr.sub 64 y u hy ry, D.shaped hx, D.shaped hy, k _ I H .refl sr (by simp [Rp, D.eq])⟩
theorem Rps.nil_iff {I : Hp} {l : List D} {vs : List V} (r : Rps S I l vs) : l = [] ↔ vs = [] := by
  have := r.len
  cases l <;> cases vs <;> simp_all
theorem o2_add : Op2 S (fun x y H Q => (rI0 (fun i j => .int (i + j)) x y H Q ∨ rCatA S.K x y H Q) ∨ rCat x y H Q) addD := by
  intro I H b x y v u Q E sr rx ry k
  cases x <;> cases y <;> first | exact k.elim | skip
  · simp only [Rp] at rx ry
    exact .inl (.inl ⟨_, _, rx, ry, k _ I H .refl sr (by simp [Rp])⟩)
  · simp only [Rp] at rx ry
    obtain ⟨a, vs, rfl, ha, ra⟩ := rx
    obtain ⟨c, ws, rfl, hc, rc⟩ := ry
    obtain ⟨hz, k⟩ := k
    refine .inl (.inr ⟨a, c, vs, ws, rfl, rfl, SqT_same sr.sub ha, SqT_same sr.sub hc, ?_, fun e => ?_, fun e1 e => ?_, fun e1 e2 q hq => ?_⟩)
    · rw [← ra.len, ← rc.len]; exact hz
    · refine k _ I H .refl sr ?_
      rw [ra.nil_iff.mpr e, List.nil_append]
      simp only [Rp]; exact ⟨c, ws, rfl, hc, rc⟩
    · refine k _ I H .refl sr ?_
      rw [rc.nil_iff.mpr e, List.append_nil]
      simp only [Rp]; exact ⟨a, vs, rfl, ha, ra⟩
    · exact k _ _ _ (.new sr.sub hq) (sr.new hq) (.tup sr.sub hq (ra.append rc))
  · simp only [Rp] at rx ry
    obtain ⟨a, vs, rfl, ha, ra⟩ := rx
    obtain ⟨c, ws, rfl, hc, rc⟩ := ry
    obtain ⟨hz, k⟩ := k
    refine .inr ⟨a, c, vs, ws, rfl, rfl, sr.sub _ _ ha, sr.sub _ _ hc, ?_, fun q hq => ?_⟩
    · rw [← ra.len, ← rc.len]; exact hz
    · exact k _ _ _ (.new sr.sub hq) (sr.new hq) (.lst sr.sub hq (ra.append rc))
theorem Rps.atI {I : Hp} {l : List D} {vs : List V} {i : Int} {d : D} (r : Rps S I l vs) (e : atI l i = some d) : ∃ v, L2.atI vs i = some v ∧ Rp S I d v := by
  unfold L2.atI at e ⊢
  rw [← r.len]
  cases h : ixN l.length i with
  | none => rw [h] at e; cases e
  | some j =>
    rw [h] at e
    exact r.get e
theorem o2_ix : Op2 S (fun x y H Q => rIxL S.K x y H Q ∨ rIxT S.K x y H Q) ixD := by
  intro I H b x y v u Q E sr rx ry k
  cases x <;> cases y <;> first | exact k.elim | skip
  · rename_i l i
    simp only [Rp] at rx ry
    obtain ⟨a, vs, rfl, ha, ra⟩ := rx
    unfold ixD at k
    simp only at k
    cases e : atI l i with
    | none => rw [e] at k; exact k.elim
    | some d =>
      rw [e] at k
      obtain ⟨w, h1, h2⟩ := ra.atI e
      exact .inr ⟨a, vs, i, w, rfl, ry, SqT_same sr.sub ha, h1, k _ I H .refl sr h2⟩
  · rename_i l i
    simp only [Rp] at rx ry
    obtain ⟨a, vs, rfl, ha, ra⟩ := rx
    unfold ixD at k
    simp only at k
    cases e : atI l i with
    | none => rw [e] at k; exact k.elim
    | some d =>
      rw [e] at k
      obtain ⟨w, h1, h2⟩ := ra.atI e
      exact .inl ⟨a, vs, i, w, rfl, ry, SqL.of (sr.sub _ _ ha), h1, k _ I H .refl sr h2⟩
theorem o1_neg : Op1 S (rU fun i => .int (-i)) negD := by
  intro I H b x v Q E sr rx k
  cases x <;> first | exact k.elim | skip
  simp only [Rp] at rx
  exact ⟨_, rx, k _ I H .refl sr (by simp [Rp])⟩
end
/-! ### the rules -/
section
variable {X : Cx} {κ : Cp} {W : WX} {a b : Expr} {pos : Pos} {ta tb : EW}
theorem de_add (ha : DE X κ W a ta) (hb : DE X κ W b tb) : DE X κ W (.BinOp a .Add b pos) (e2 addD ta tb) := de_op (OpR.or (OpR.or op_add op_catA) op_cat) o2_add ha hb
theorem de_sub (ha : DE X κ W a ta) (hb : DE X κ W b tb) : DE X κ W (.BinOp a .Sub b pos) (e2 subD ta tb) := de_op op_sub (o2_i0 fun _ _ _ => by simp [Rp]) ha hb
theorem de_mulI (ha : DE X κ W a ta) (hb : DE X κ W b tb) : DE X κ W (.BinOp a .Mult b pos) (e2 mulI ta tb) := de_op op_mul (o2_i fun _ _ _ => by simp [Rp]) ha hb
theorem de_fdiv (ha : DE X κ W a ta) (hb : DE X κ W b tb) : DE X κ W (.BinOp a .FloorDiv b pos) (e2 fdivD ta tb) := de_op op_fdiv (o2_i fun _ _ _ => by simp [Rp]) ha hb
theorem de_mod (ha : DE X κ W a ta) (hb : DE X κ W b tb) : DE X κ W (.BinOp a .Mod b pos) (e2 modD ta tb) := de_op op_mod (o2_i fun _ _ _ => by simp [Rp]) ha hb
theorem de_shl (ha : DE X κ W a ta) (hb : DE X κ W b tb) : DE X κ W (.BinOp a .LShift b pos) (e2 shlD ta tb) := de_op op_shl (o2_i fun _ _ _ => by simp [Rp]) ha hb
theorem de_shr (ha : DE X κ W a ta) (hb : DE X κ W b tb) : DE X κ W (.BinOp a .RShift b pos) (e2 shrD ta tb) := de_op op_shr (o2_i fun _ _ _ => by simp [Rp]) ha hb
theorem de_bitand (ha : DE X κ W a ta) (hb : DE X κ W b tb) : DE X κ W (.BinOp a .BitAnd b pos) (e2 andD ta tb) := de_op op_and (o2_i0 fun _ _ _ => by simp [Rp]) ha hb
theorem de_neg (ha : DE X κ W a ta) : DE X κ W (.UnaryOp .USub a pos) (e1 negD ta) := de_un un_neg o1_neg ha
theorem de_lt (ha : DE X κ W a ta) (hb : DE X κ W b tb) : DE X κ W (.Compare a [.Lt] [b] pos) (e2 ltD ta tb) := de_cmp op_lt (o2_i0 fun _ _ _ => by simp [Rp]) ha hb (nomark _)
theorem de_le (ha : DE X κ W a ta) (hb : DE X κ W b tb) : DE X κ W (.Compare a [.LtE] [b] pos) (e2 leD ta tb) := de_cmp op_le (o2_i0 fun _ _ _ => by simp [Rp]) ha hb (nomark _)
theorem de_ge (ha : DE X κ W a ta) (hb : DE X κ W b tb) : DE X κ W (.Compare a [.GtE] [b] pos) (e2 geD ta tb) := de_cmp op_ge (o2_i0 fun _ _ _ => by simp [Rp]) ha hb (nomark _)
theorem de_eq (hu : X.A.units + 64 < cLine) (ha : DE X κ W a ta) (hb : DE X κ W b tb) : DE X κ W (.Compare a [.Eq] [b] pos) (e2 eqD ta tb) := de_cmp (op_eqD hu) o2_eq ha hb (nomark _)
theorem de_ne (hu : X.A.units + 64 < cLine) (ha : DE X κ W a ta) (hb : DE X κ W b tb) : DE X κ W (.Compare a [.NotEq] [b] pos) (e2 neD ta tb) := de_cmp (op_neD hu) o2_ne ha hb (nomark _)
theorem de_notN (ha : DE X κ W a ta) (hb : DE X κ W b tb) : DE X κ W (.Compare a [.IsNot] [b] pos) (e2 notND ta tb) := de_cmp op_notN o2_notN ha hb (nomark _)
theorem dt_lt (ha : DE X κ W a ta) (hb : DE X κ W b tb) : DT X κ W (.Compare a [.Lt] [b] pos) (fun ρ => e2 ltD ta tb ρ >>= tst) := dt_cmp op_lt (o2_i0 fun _ _ _ => by simp [Rp]) ha hb (nomark _)
theorem dt_gt (ha : DE X κ W a ta) (hb : DE X κ W b tb) : DT X κ W (.Compare a [.Gt] [b] pos) (fun ρ => e2 gtD ta tb ρ >>= tst) := dt_cmp op_gt (o2_i0 fun _ _ _ => by simp [Rp]) ha hb (nomark _)
theorem dt_ge (ha : DE X κ W a ta) (hb : DE X κ W b tb) : DT X κ W (.Compare a [.GtE] [b] pos) (fun ρ => e2 geD ta tb ρ >>= tst) := dt_cmp op_ge (o2_i0 fun _ _ _ => by simp [Rp]) ha hb (nomark _)
theorem dt_eq (hu : X.A.units + 64 < cLine) (ha : DE X κ W a ta) (hb : DE X κ W b tb) : DT X κ W (.Compare a [.Eq] [b] pos) (fun ρ => e2 eqD ta tb ρ >>= tst) := dt_cmp (op_eqD hu) o2_eq ha hb (nomark _)
theorem dt_ne (hu : X.A.units + 64 < cLine) (ha : DE X κ W a ta) (hb : DE X κ W b tb) : DT X κ W (.Compare a [.NotEq] [b] pos) (fun ρ => e2 neD ta tb ρ >>= tst) := dt_cmp (op_neD hu) o2_ne ha hb (nomark _)
theorem dt_isN (ha : DE X κ W a ta) (hb : DE X κ W b tb) : DT X κ W (.Compare a [.Is] [b] pos) (fun ρ => e2 isND ta tb ρ >>= tst) := dt_cmp op_isN o2_isN ha hb (nomark _)
theorem IxR.or {r r' : R2} (h : IxR X r) (h' : IxR X r') : IxR X (fun x y H Q => r x y H Q ∨ r' x y H Q) := L2.IxR.or h h'
theorem de_at (ha : DE X κ W a ta) (hb : DE X κ W b tb) (hs : PlainIx b := by exact fun _ _ => rfl) : DE X κ W (.Subscript a b pos) (e2 ixD ta tb) := de_ix (L2.IxR.or ix_list ix_tup) o2_ix ha hb hs
end
end L2.NW
end
section
set_option Elab.async false
set_option autoImplicit false
set_option linter.all false
set_option maxRecDepth 100000
/-! NwE: statements, defs. -/
namespace L2.NW
open PySem PySem.Spec PyProof.Rows
/-- how a block ends -/
inductive Fl where
  | nx (ρ : Env') | rt (d : D) | bk (ρ : Env') | ct (ρ : Env')
abbrev SW := Env' → WP Fl

/-- the world and the slots in the middle of a body -/
structure WOk (S : Sx) (κ : Cp) (I H : Hp) (b : Nat) (ρ : Env') (σ : St) : Prop where
  sr : SR S I H b
  er : ER S κ I H ρ σ
  st : Stp S κ.i0 κ.h0 I H
def KF (S : Sx) (κ : Cp) (i : Hp) (D : Ends) : Fl → Nat → Prop
  | .nx ρ, b => ∀ σ I H, WOk S κ I H b ρ σ → Same i I → D.nx σ H
  | .rt d, b => ∀ v I H, SR S I H b → Stp S κ.i0 κ.h0 I H → Rp S I d v → D.rt v H
  | .bk ρ, b => ∀ σ I H, WOk S κ I H b ρ σ → Same i I → D.bk σ H
  | .ct ρ, b => ∀ σ I H, WOk S κ I H b ρ σ → Same i I → D.ct σ H
theorem KF.later {S : Sx} {κ : Cp} {i j : Hp} {D : Ends} {f : Fl} {b : Nat} (s : Same i j) (k : KF S κ i D f b) : KF S κ j D f b := by
  cases f with
  | nx ρ => exact fun σ I H w x => k σ I H w (s.trans x)
  | rt d => exact k
  | bk ρ => exact fun σ I H w x => k σ I H w (s.trans x)
  | ct ρ => exact fun σ I H w x => k σ I H w (s.trans x)
def KXs (S : Sx) (κ : Cp) (E : XK) (x : Ex) (b : Nat) : Prop := ∀ cls d I H, SR S I H b → Stp S κ.i0 κ.h0 I H → XR S I x cls d → E cls d H
def tDS (S : Sx) (κ : Cp) (E : XK) (t : SW) : TS := fun D σ H => ∃ I ρ b, WOk S κ I H b ρ σ ∧ (t ρ).run b (KF S κ I D) (KXs S κ E)
def DS (X : Cx) (κ : Cp) (E : XK) (st : Stmt) (t : SW) : Prop := PS X st (tDS (Sx.of X κ) κ E t)
def DSs (X : Cx) (κ : Cp) (E : XK) (st : List Stmt) (t : SW) : Prop := PSs X st (tDS (Sx.of X κ) κ E t)
abbrev wOf (E : XK) : WX := fun c d _ H => E c d H

theorem WOk.stp {S : Sx} {κ : Cp} {I H I' H' : Hp} {b b' : Nat} {ρ : Env'} {σ : St} (w : WOk S κ I H b ρ σ) (x : Stp S I H I' H') (s : SR S I' H' b') : WOk S κ I' H' b' ρ σ :=
  ⟨s, w.er.stp x ⟨_, w.sr⟩, w.st.trans x⟩
theorem KXs.kx {S : Sx} {κ : Cp} {E : XK} {x : Ex} {b : Nat} {I H : Hp} (w : Stp S κ.i0 κ.h0 I H) (k : KXs S κ E x b) : KX S I H E x b := fun cls d I' H' y s r => k cls d I' H' s (w.trans y) r

section
variable {S : Sx} {κ : Cp} {E : XK} {σ : St} {H : Hp}
/-- an expression within a statement -/
theorem ds_ofE {te : EW} {f : D → WP Fl} {D : Ends} {Q : VK} {I : Hp} {ρ : Env'} {b : Nat} (w : WOk S κ I H b ρ σ) (h : (te ρ >>= f).run b (KF S κ I D) (KXs S κ E))
    (k : ∀ d b' v I' H', WOk S κ I' H' b' ρ σ → Stp S I H I' H' → Rp S I' d v → (f d).run b' (KF S κ I D) (KXs S κ E) → Q v H') : tD S κ (wOf E) te σ H Q :=
  ⟨I, ρ, b, w.sr, w.er, (te ρ).mono h (fun d b' h' v I' H' x s r => k d b' v I' H' (w.stp x s) x r h') fun _ _ z => z.kx w.st⟩
theorem ds_ofT {te : BW} {f : Bool → WP Fl} {D : Ends} {Q : Bool → Hp → Prop} {I : Hp} {ρ : Env'} {b : Nat} (w : WOk S κ I H b ρ σ) (h : (te ρ >>= f).run b (KF S κ I D) (KXs S κ E))
    (k : ∀ d b' I' H', WOk S κ I' H' b' ρ σ → Stp S I H I' H' → (f d).run b' (KF S κ I D) (KXs S κ E) → Q d H') : tDT S κ (wOf E) te σ H Q :=
  ⟨I, ρ, b, w.sr, w.er, (te ρ).mono h (fun d b' h' I' H' x s => k d b' I' H' (w.stp x s) x h') fun _ _ z => z.kx w.st⟩
theorem ds_ofA {te : AW} {f : List D → WP Fl} {D : Ends} {Q : List V → Hp → Prop} {I : Hp} {ρ : Env'} {b : Nat} (w : WOk S κ I H b ρ σ) (h : (te ρ >>= f).run b (KF S κ I D) (KXs S κ E))
    (k : ∀ d b' v I' H', WOk S κ I' H' b' ρ σ → Stp S I H I' H' → Rps S I' d v → (f d).run b' (KF S κ I D) (KXs S κ E) → Q v H') : tDA S κ (wOf E) te σ H Q :=
  ⟨I, ρ, b, w.sr, w.er, (te ρ).mono h (fun d b' h' v I' H' x s r => k d b' v I' H' (w.stp x s) x r h') fun _ _ z => z.kx w.st⟩
end
/-- a slot set to data -/
theorem ER.setVal {S : Sx} {κ : Cp} {I H : Hp} {ρ : Env'} {σ : St} {i : Nat} {d : D} {v : V} (e : ER S κ I H ρ σ) (r : Rp S I d v) : ER S κ I H (ρ.set i (.val d)) (σ.set i (some v)) := by
  refine ⟨by simp [e.len], fun j s o h1 h2 => ?_, fun j k s t a h1 h2 o1 o2 h3 h4 => ?_⟩
  · by_cases hj : i = j
    · subst hj
      have hi : i < ρ.length := by simpa using (List.getElem?_eq_some_iff.mp h1).1
      rw [List.getElem?_set_self hi] at h1
      rw [List.getElem?_set_self (e.len ▸ hi)] at h2
      cases h1; cases h2
      exact ⟨v, rfl, r⟩
    · rw [List.getElem?_set_ne hj] at h1 h2
      exact e.at_ j s o h1 h2
  · have hij : i ≠ j := fun z => by
      subst z
      have hi : i < ρ.length := by simpa using (List.getElem?_eq_some_iff.mp h1).1
      rw [List.getElem?_set_self hi] at h1
      cases h1; cases o1
    have hik : i ≠ k := fun z => by
      subst z
      have hi : i < ρ.length := by simpa using (List.getElem?_eq_some_iff.mp h2).1
      rw [List.getElem?_set_self hi] at h2
      cases h2; cases o2
    rw [List.getElem?_set_ne hij] at h1 h3
    rw [List.getElem?_set_ne hik] at h2 h4
    exact e.apart j k s t a h1 h2 o1 o2 h3 h4

section
variable {X : Cx} {κ : Cp} {E : XK} {st : Stmt} {rest : List Stmt} {e : Expr} {pos : Pos} {t u : SW} {te : EW}
/-! ### blocks -/
def sNext : SW := fun ρ => pure (.nx ρ)
def sSeq (t u : SW) : SW := fun ρ => do
  let f ← t ρ
  match f with
  | .nx ρ' => u ρ'
  | f => pure f
theorem dss_nil : DSs X κ E [] sNext := PSs.imp pss_nil fun D σ H ⟨I, ρ, b, w, h⟩ => h σ I H w fun _ _ z => z
theorem dss_cons (h1 : DS X κ E st t) (h2 : DSs X κ E rest u) : DSs X κ E (st :: rest) (sSeq t u) :=
  PSs.imp (pss_cons h1 h2) fun D σ H ⟨I, ρ, b, w, h⟩ => ⟨I, ρ, b, w, (t ρ).mono h (fun f b' h' => by
    cases f with
    | nx ρ' => exact fun σ' I' H' w' x => ⟨I', ρ', b', w', (u ρ').mono h' (fun _ _ z => z.later x) fun _ _ z => z⟩
    | rt d => exact h'
    | bk ρ' => exact h'
    | ct ρ' => exact h') fun _ _ z => z⟩
theorem dss_one (h1 : DS X κ E st t) : DSs X κ E [st] t := pss_one h1
def sBreak : SW := fun ρ => pure (.bk ρ)
def sCont : SW := fun ρ => pure (.ct ρ)
theorem ds_break : DS X κ E (.Break pos) sBreak := PS.imp ps_break fun D σ H ⟨I, ρ, b, w, h⟩ => h σ I H w fun _ _ z => z
/-! ### small statements -/
def sExpr (te : EW) : SW := fun ρ => do let _ ← te ρ; pure (.nx ρ)
theorem ds_expr (he : DE X κ (wOf E) e te) (hs : swapsWith e none pos.line X.env = pure false := by rfl) : DS X κ E (.Expr e pos) (sExpr te) :=
  PS.imp (ps_expr he hs) fun D σ H ⟨I, ρ, b, w, h⟩ => ds_ofE w h fun d b' v I' H' w' x r h' => h' σ I' H' w' x.ii
def sRet (te : EW) : SW := fun ρ => do let d ← te ρ; pure (.rt d)
theorem ds_ret (he : DE X κ (wOf E) e te) : DS X κ E (.Return (some e) pos) (sRet te) :=
  PS.imp (ps_ret he) fun D σ H ⟨I, ρ, b, w, h⟩ => ds_ofE w h fun d b' v I' H' w' _ r h' => h' v I' H' w'.sr w'.st r
def sRetN : SW := fun _ => pure (.rt .non)
def sSet (i : Nat) (te : EW) : SW := fun ρ => do let d ← te ρ; pure (.nx (ρ.set i (.val d)))
theorem ds_set {i : Nat} {x : Str} {pos' : Pos} (hN : X.N.Nodup) (hi : X.N[i]? = some x) (hx : Loc X.env.scope x) (he : DE X κ (wOf E) e te) (hs : swapsWith e (some (.Name x pos')) pos.line X.env = pure false := by rfl) (hf : X.fn x = true ∨ X.env.scope.names.lookup x = some .local := by first | exact .inl rfl | exact .inr rfl | assumption) :
    DS X κ E (.Assign [.Name x pos'] e pos) (sSet i te) :=
  PS.imp (ps_set hN hi hx he hs hf) fun D σ H ⟨I, ρ, b, w, h⟩ => ds_ofE w h fun d b' v I' H' w' x r h' => h' _ I' H' ⟨w'.sr, w'.er.setVal r, w'.st⟩ x.ii
def sIf (tc : BW) (t u : SW) : SW := fun ρ => do let c ← tc ρ; if c then t ρ else u ρ
theorem ds_if {c : Expr} {a b : List Stmt} {tc : BW} (hc : DT X κ (wOf E) c tc) (ha : DSs X κ E a t) (hb : DSs X κ E b u) : DS X κ E (.If c a b pos) (sIf tc t u) :=
  PS.imp (ps_if hc ha hb) fun D σ H ⟨I, ρ, b, w, h⟩ => ds_ofT w h fun d b' I' H' w' x h' => by
    cases d with
    | true => exact iteT ⟨I', ρ, b', w', (t ρ).mono h' (fun _ _ z => z.later x.ii) fun _ _ z => z⟩
    | false => exact iteF ⟨I', ρ, b', w', (u ρ).mono h' (fun _ _ z => z.later x.ii) fun _ _ z => z⟩
end
/-! ### defs -/
/-- what a def is worth -/
abbrev Mir := List D → WP D
/-- the promise of a def that is worth m -/
def spD (S : Sx) (m : Mir) : Sp := fun vs H Q E => ∃ I b ds, SR S I H b ∧ Rps S I ds vs ∧ (m ds).run b (KD S I H Q) (KX S I H E)
def startD (n : Nat) (ds : List D) : Env' := ds.map Sl.val ++ List.replicate (n - ds.length) Sl.no
/-- what a body is worth -/
def bodyD (n : Nat) (t : SW) : Mir := fun ds => do
  let f ← t (startD n ds)
  match f with
  | .nx _ => pure .non
  | .rt d => pure d
  | _ => WP.bad
theorem Rps.start {S : Sx} {κ : Cp} {I H : Hp} {ds : List D} {vs : List V} {N : List Str} (r : Rps S I ds vs) : ER S κ I H (startD N.length ds) (L2.start N vs) := by
  have hl := r.len
  refine ⟨by simp [startD, L2.start, hl], fun i s o h1 h2 => ?_, fun i j s t a h1 h2 o1 _ _ _ => ?_⟩
  · unfold startD at h1
    by_cases hi : i < ds.length
    · rw [List.getElem?_append_left (by simpa using hi), List.getElem?_map] at h1
      cases e : ds[i]? with
      | none => rw [e] at h1; cases h1
      | some d =>
        rw [e] at h1
        cases h1
        obtain ⟨v, h3, h4⟩ := r.get e
        unfold L2.start at h2
        rw [List.getElem?_append_left (by simpa [← hl] using hi), List.getElem?_map, h3] at h2
        cases h2
        exact ⟨v, rfl, h4⟩
    · rw [List.getElem?_append_right (by simpa using hi), List.getElem?_replicate] at h1
      split at h1
      · cases h1; trivial
      · cases h1
  · unfold startD at h1
    by_cases hi : i < ds.length
    · rw [List.getElem?_append_left (by simpa using hi), List.getElem?_map] at h1
      cases e : ds[i]? with
      | none => rw [e] at h1; cases h1
      | some d => rw [e] at h1; cases h1; cases o1
    · rw [List.getElem?_append_right (by simpa using hi), List.getElem?_replicate] at h1
      split at h1
      · cases h1; cases o1
      · cases h1

/-- a def that may be called by its name, worth m on n arguments -/
structure Cal (P : Program) (w : World) (K : PySem.W.Frag) (mg : Str → Option Value) (base : Heap) (p : Pt) (k : Nat) (x : Str) (n : Nat) (m : Mir) : Prop where
  ex : ∃ (f : Addr) (fd : FuncData) (ps : List Str), mg x = some (.ref f) ∧ PySem.W.keepIn K (.ref f) = true ∧ Binds K fd ps [] ∧ ps.length = n ∧
    FnOk P w K mg base (L2.CX P w) k f fd ps (fun vs H Q E => vs.length = n ∧ spD ⟨K, mg, p, w⟩ m vs H Q E)
theorem Cal.mono {P : Program} {w : World} {K : PySem.W.Frag} {mg : Str → Option Value} {base : Heap} {p : Pt} {j k : Nat} {x : Str} {n : Nat} {m : Mir} (c : Cal P w K mg base p j x n m) (h : j ≤ k) : Cal P w K mg base p k x n m := by
  obtain ⟨f, fd, ps, h1, h2, h3, h4, h5⟩ := c.ex
  exact ⟨f, fd, ps, h1, h2, h3, h4, h5.mono h⟩
/-- a def by its body -/
theorem cal_of {P : Program} {w : World} {K : PySem.W.Frag} {mg : Str → Option Value} {base : Heap} {p : Pt} {x y : Str} {st : Stmt} {f : Addr} {fd : FuncData} {N ps : List Str} {k n : Nat} {t : SW} (hm : mg y = some (.ref f)) (F : Fun K x x st f fd) (S : FnScope N ps (defScope st)) (hn : ps.length = n)
    (hb : Binds K fd ps [])
    (body : ∀ (κ : Cp) (cdv : Value) (A : Around) (outer : List Env) (s : Shared) (H : Hp) (E : XK), κ.p = p → Room k (A.deeper (envOfC x (defScope st) s.heap.objs.size f cdv)) →
      DSs (cxOf (L2.CX P w) P w K mg base N x (defScope st) f cdv A outer s H E) κ E (defBody st) t) : Cal P w K mg base p (k + 1) y n (bodyD N.length t) := by
  refine ⟨f, fd, ps, hm, F.kp, hb, hn, F.okX S (fun vs H Q E h => h.1.trans hn.symm) fun cdv A outer s H vs Q E hr h => ?_⟩
  obtain ⟨hl, I, b, ds, sr, r, h⟩ := h
  refine ⟨_, body ⟨p, I, H, 0, 0⟩ cdv A outer s H E rfl hr, I, startD N.length ds, b, ⟨sr, r.start, .refl⟩, ?_⟩
  refine (t (startD N.length ds)).mono h (fun fl b' h' => ?_) fun _ _ z cls d I' H' s' x' r' => z cls d I' H' x' s' r'
  cases fl with
  | nx ρ => exact fun σ I' H' w' _ => h' .non I' H' w'.st w'.sr (by simp [Rp])
  | rt d => exact fun v I' H' s' x' r' => h' v I' H' x' s' r'
  | bk ρ => exact h'.elim
  | ct ρ => exact h'.elim

section
variable {X : Cx} {κ : Cp} {W : WX} {e : Expr} {es : List Expr} {pos pn : Pos} {x : Str} {ts : AW} {m : Mir}
/-- f(e, ..) -/
theorem de_call {j k n : Nat} (c : Cal X.prog X.w X.K X.mg X.base κ.p j x n m) (hr : Room k X.A) (hj : j ≤ k) (hg : Gl X x) (tk : Takes X W) (ha : DA X κ W (e :: es) ts) (hn : (e :: es).length = n := by rfl) (hdb : (x == ("__debug__" : Str)) = false := by decide)
    (he : starEach (e :: es) X.env = (false, eval e X.env) :: starEach es X.env := by rfl) (hpl : (backTo pos (starEach es X.env)).any (·.1) = false := by rfl) :
    DE X κ W (.Call (.Name x pn) (e :: es) [] pos) (fun ρ => do let xs ← ts ρ; WP.need (xs.length = n) (m xs)) := by
  obtain ⟨f, fd, ps, h1, h2, h3, h4, h5⟩ := c.ex
  refine PE.imp (pe_callSD (E := fun σ => WE W σ) (h5.mono hj) hr hg h1 h2 h3 (dvs := []) (ds := []) .nil (fun σ => passAt tk σ) ha hdb he hpl) fun σ H Q ⟨I, ρ, b, sr, er, h⟩ => ?_
  refine tDA_bind sr er h fun d b1 v I1 H1 x1 s1 er1 r1 h1 => ?_
  rw [List.append_nil]
  refine ⟨r1.len ▸ h1.1, I1, b1, d, s1, r1, (m d).mono h1.2 (fun _ _ z => KD.mono x1 z) fun _ _ z => z⟩
end
end L2.NW
end
section
set_option Elab.async false
set_option autoImplicit false
set_option linter.all false
set_option maxRecDepth 100000
set_option maxHeartbeats 1000000
/-! NwI: what a for walks: enumerate and zip of lists and tuples in any mix. -/
namespace L2.NW
open PySem PySem.Spec PyProof.Rows
/-! ### a source: a list or a tuple -/
def SrcR (K : PySem.W.Frag) (H : Hp) : Bool → Addr → List V → Prop
  | true, a, xs => SqT K H a xs
  | false, a, xs => SqL K H a xs
def SrcH (h : Heap) : Bool → Addr → Array Value → Prop
  | true, a, its => h.IsTuple a its
  | false, a, its => h.IsList a its
def srcObj : Bool → Addr → Obj
  | true, a => { cls := .type "tuple_iterator", data := .fields #[.ref a, .int 0 0] }
  | false, a => { cls := .type "list_iterator", data := .fields #[.ref a, .int 0 0] }
def SrcI (h : Heap) : Bool → Addr → Addr → Nat → Prop
  | true, it, a, i => h.IsTupleIter it a i
  | false, it, a, i => h.IsListIter it a i
theorem src_begins (k : Bool) (a : Addr) (its : Array Value) : Begins (.ref a) (srcObj k a) fun h => SrcH h k a its := by
  cases k
  · exact begins_list a its
  · exact begins_tuple a its
theorem src_draws {prog : Program} {w : World} {A : Around} (hh : A.handled = none) (k : Bool) {it a : Addr} (hne : a ≠ it) (its : Array Value) :
    Draws prog w A it [it, a] its.size (fun i v => its[i]? = some v) (fun i h => SrcI h k it a i ∧ SrcH h k a its) := by
  cases k
  · exact Draws.list hh it a hne its
  · exact Draws.tuple hh it a hne its
theorem srcI_new {h : Heap} {k : Bool} {it a : Addr} (e : h.get? it = some (srcObj k a)) : SrcI h k it a 0 := by
  cases k
  · exact ⟨_, e, rfl, rfl⟩
  · exact ⟨_, e, rfl, rfl⟩
theorem srcI_obj {h : Heap} {k : Bool} {it a : Addr} {i : Nat} (e : SrcI h k it a i) : ∃ o, h.get? it = some o ∧ ∀ v, o.data ≠ .cell v := by
  cases k
  · obtain ⟨o, e1, _, e2⟩ := e
    exact ⟨o, e1, fun v q => by rw [e2] at q; cases q⟩
  · obtain ⟨o, e1, _, e2⟩ := e
    exact ⟨o, e1, fun v q => by rw [e2] at q; cases q⟩
theorem srcI_at {h h' : Heap} {k : Bool} {it a : Addr} {i : Nat} (e : SrcI h k it a i) (q : ∀ o, h.get? it = some o → h'.get? it = some o) : SrcI h' k it a i := by
  cases k
  · obtain ⟨o, e1, e2⟩ := e
    exact ⟨o, q _ e1, e2⟩
  · obtain ⟨o, e1, e2⟩ := e
    exact ⟨o, q _ e1, e2⟩
theorem srcI_lt {h : Heap} {k : Bool} {it a : Addr} {i : Nat} (e : SrcI h k it a i) : it < h.objs.size := let ⟨_, q, _⟩ := srcI_obj e; Heap.lt_size q
section
variable {X : Cx} {pins : List (Addr × Obj)} {σ : St} {H : Hp} {s : Shared} {k : Bool} {a : Addr} {xs : List V}
theorem Inv.src (I : Inv X pins σ H s) (h : SrcR X.K H k a xs) : ∃ its : List Value, Vals xs its ∧ SrcH s.heap k a its.toArray ∧ xs.length ≤ sizeLine ∧ a < s.heap.objs.size := by
  cases k
  · obtain ⟨its, r, p, z⟩ := I.list h
    exact ⟨its, r, p.isList, z, p.lt⟩
  · obtain ⟨its, r, p, z⟩ := I.tuple h
    exact ⟨its, r, p, z, p.lt⟩
end
/-! ### enumerate of one thing -/
section
open AutoSeq1 (wpAny_loadPart')
theorem meets_enum1 {v : Value} {o : Obj} {G : Heap → Prop} (B : Begins v o G) :
    Meets (Builtin.«enumerate.__new__» ⟨[.type "enumerate", v], []⟩) (fun _ R s => G s.heap ∧
      R (.ok (.ret (.ref (s.heap.push o).objs.size))) { s with heap := (s.heap.push o).push { cls := .type "enumerate", data := .fields #[.none, .bool false, .ref s.heap.objs.size, rawInt 0, .none, .none] } }) :=
  .of_wp fun prog w A R s hw => by
    obtain ⟨he, gs, dr, tk, ost⟩ := s
    obtain ⟨hg, hw⟩ := hw
    have hsubE := sub_enumerate
    have itOf : ∀ {A' : Around} {E : Value → Shared → Prop} {Q : Value → Shared → Prop}, Q (.ref he.objs.size) ⟨he.push o, gs, dr, tk, ost⟩ → wpAny (model prog w) A' (pyIter v) Q E ⟨he, gs, dr, tk, ost⟩ :=
      fun q => B.iter prog w _ _ ⟨he, gs, dr, tk, ost⟩ _ hg q
    wp_walk using itOf
    refine wpAny_stack_any fun stk => wpAny_pure ?_
    split
    · rename_i cl _ _ _ _ _
      cases (cl == Value.type "enumerate")
      · wp_walk using itOf
        exact ⟨_, rfl, hw⟩
      · wp_walk using itOf
        exact ⟨_, rfl, hw⟩
    · wp_walk using itOf
      exact ⟨_, rfl, hw⟩
end
section
variable {prog : Program} {w : World} {A : Around} {E : Value → Shared → Prop} {s : Shared}
theorem enum1_begins {v : Value} {o : Obj} {G : Heap → Prop} {Q : Value → Shared → Prop} (B : Begins v o G) (hg : G s.heap)
    (h : ∀ h', IsEnum h' (s.heap.objs.size + 1) s.heap.objs.size 0 .none → h'.get? s.heap.objs.size = some o → h'.objs.size = s.heap.objs.size + 2 →
      (∀ b ob, s.heap.get? b = some ob → h'.get? b = some ob) → Q (.ref (s.heap.objs.size + 1)) { s with heap := h' }) :
    wpAny (model prog w) A (call (.type "enumerate") [v]) Q E s := by
  refine callType_new F.called_enumerate (by decide) (F.typeCall_enumerate_1 _) (F.newCall_enumerate_1 _) (fun obj => F.args_object_init_2 obj _) F.entry_enumerate_new (meets_enum1 B) ⟨hg, ?_⟩
  have sz : (s.heap.push o).objs.size = s.heap.objs.size + 1 := Heap.size_push ..
  show _ ∧ _
  rw [sz]
  have ie : IsEnum ((s.heap.push o).push { cls := .type "enumerate", data := .fields #[.none, .bool false, .ref s.heap.objs.size, rawInt 0, .none, .none] }) (s.heap.objs.size + 1) s.heap.objs.size 0 .none := by
    have q := Heap.get?_push_size (s.heap.push o) (o := { cls := .type "enumerate", data := .fields #[.none, .bool false, .ref s.heap.objs.size, rawInt 0, .none, .none] }) rfl
    rw [sz] at q
    exact q
  exact ⟨⟨_, ie, rfl⟩, h _ ie (Heap.get?_push_of_some _ (Heap.get?_push_size _ B.free)) (by rw [Heap.size_push, sz]) fun b ob x => Heap.get?_push_of_some _ (Heap.get?_push_of_some _ x)⟩
end
/-- each item of a source in a new pair with its place -/
def ItE (K : PySem.W.Frag) (k : Bool) (a : Addr) (xs : List V) : It :=
  ⟨fun i H => SrcR K H k a xs ∧ i < xs.length, fun i H v H' => ∃ T x, v = .ref T ∧ H T = none ∧ H' = upd H T (.tup [.int (i : Nat), x]) ∧ xs[i]? = some x, fun i H => SrcR K H k a xs ∧ i = xs.length⟩
theorem turn_E {P : Program} {w : World} {K : PySem.W.Frag} {elts : List Expr} {kk : Nat} {tpos : Pos} {k : Bool} {a e it : Addr} {xs : List V} (hei : e ≠ it) (hea : e ≠ a) (hai : a ≠ it) :
    Turn P w K (.Tuple elts kk tpos) (ItE K k a xs) [e, it] e (fun i h => (∃ old, IsEnum h e it (0 + (i : Int)) old) ∧ SrcI h k it a i) where
  mem := by simp
  obj := fun i h st b hb => by
    obtain ⟨⟨old, he⟩, hi⟩ := st
    have q : b = e ∨ b = it := by simpa using hb
    rcases q with z | z
    · rw [z]; exact ⟨_, he, fun v q => nomatch q⟩
    · rw [z]; exact srcI_obj hi
  keep := fun i h h' st q => let ⟨⟨old, he⟩, hi⟩ := st; ⟨⟨old, q e (by simp) _ he⟩, srcI_at hi fun o z => q it (by simp) o z⟩
  item := by
    intro X hP hw hK hc i pins s σ H E I hf st hg
    subst hP hw hK
    obtain ⟨he, hit⟩ := st
    obtain ⟨hq, hlt⟩ := hg
    obtain ⟨its, rv, p, hz, _⟩ := Inv.src I hq
    have W := WalksT.enumFrom (prog := X.prog) (w := X.w) (A := X.A) 0 (src_draws (A := X.A.in1) (I.ok.hd hc) k hai its.toArray) e hei (by simp [hei, hea]) (by simp)
    have hl := rv.length
    refine W.item i s _ _ (by simpa [← hl] using hlt) ⟨he, hit, p⟩ fun T vals h' tk hp hT htup hMid hk => ⟨_, rfl, ?_⟩
    obtain ⟨tt, x, hx, rfl⟩ := hp
    refine W.go elts kk tpos i T _ _ _ hMid fun h'' hst hk2 => ?_
    have hx' : its[i]? = some x := by simpa using hx
    have e1 : xs[i]? = some xs[i] := List.getElem?_eq_getElem hlt
    obtain ⟨u, hu, ru⟩ := rv.get e1
    rw [hx'] at hu
    cases hu
    have hTw := W.apart _ _ _ hMid
    have hT2 : h''.IsTuple T #[.int (0 + (i : Int)) tt, x] := htup.at fun o q => hk2 T o hTw q
    have hlt2 : ∀ b ∈ [e, it], b < s.heap.objs.size := fun b hb => by
      have q : b = e ∨ b = it := by simpa using hb
      rcases q with z | z
      · rw [z]; obtain ⟨_, q⟩ := he; exact Heap.lt_size q
      · rw [z]; exact srcI_lt hit
    have new : ObjOk X.prog X.w (upd H T (.tup [.int (i : Nat), xs[i]])) h'' T (.tup [.int (i : Nat), xs[i]]) :=
      ⟨by show 2 ≤ sizeLine; decide, [.int (0 + (i : Int)) tt, x], .cons ⟨_, by rw [Int.zero_add]⟩ (.cons ru .nil), hT2⟩
    have I1 := I.turnedNew (t' := tk) (ch := [e, it]) (fun b o hb q => hk2 b o hb (hk b o hb q)) hf hT new
    exact ⟨.ref T, _, I1, rfl, ⟨T, xs[i], rfl, I.hok.fresh hT, rfl, e1⟩, ⟨hst.1, hst.2.1⟩, fun b hb => by rw [upd_ne (Nat.ne_of_lt (Nat.lt_of_lt_of_le (hlt2 b hb) hT))]; exact (hf b hb).1⟩
  done := by
    intro X hP hw hK hc i pins s σ H E I hf st hg
    subst hP hw hK
    obtain ⟨he, hit⟩ := st
    obtain ⟨hq, hlt⟩ := hg
    subst hlt
    obtain ⟨its, rv, p, hz, _⟩ := Inv.src I hq
    have W := WalksT.enumFrom (prog := X.prog) (w := X.w) (A := X.A) 0 (src_draws (A := X.A.in1) (I.ok.hd hc) k hai its.toArray) e hei (by simp [hei, hea]) (by simp)
    have hl : xs.length = its.toArray.size := by simpa using rv.length
    rw [hl] at he hit
    exact W.done s _ _ ⟨he, hit, p⟩ fun h' tk hk => ⟨rfl, I.turnedL (t' := tk) hk hf⟩
  self := fun A i s Q E st h => let ⟨⟨_, he⟩, _⟩ := st; wpAny_pyIter_enum he h
def iEnumS (K : PySem.W.Frag) (ta : TA) : TI := fun σ H R => ta σ H fun vs H1 => ∃ k a xs, vs = [.ref a] ∧ SrcR K H1 k a xs ∧ (xs.length ≤ sizeLine → R (ItE K k a xs) H1)
theorem pi_enumS {X : Cx} {e : Expr} {ta : TA} {p pos tpos : Pos} {elts : List Expr} {kk : Nat} (hg : Gl X "enumerate") (hm : X.mg "enumerate" = none) (ha : PA X [e] ta) (hs : starEach [e] X.env = [(false, eval e X.env)] := by rfl) :
    PI X (.Tuple elts kk tpos) (.Call (.Name "enumerate" p) [e] [] pos) (iEnumS X.K ta) := by
  refine ⟨fun pins s σ H R I h => ?_⟩
  refine Call_ (ld_blt I hg hm boot_enumerate (PyProof.Rows.callWith_type1 (thn (ha.run pos pins s σ H _ I h) fun us s1 ⟨vs, H1, I1, r1, q1⟩ => ?_) hs rfl))
  obtain ⟨k, a, xs, ex, hq, q⟩ := q1
  subst ex
  rw [Vals.ref1 r1]
  obtain ⟨its, rv, p', hz, la⟩ := Inv.src I1 hq
  refine enum1_begins (src_begins k a its.toArray) p' fun h' he hit hsz hk => wpAny_pyIter_enum he ?_
  have I2 : Inv X pins σ H1 { s1 with heap := h' } := I1.kept (t' := s1.toks) hk
  have hne : s1.heap.objs.size + 1 ≠ s1.heap.objs.size := Nat.succ_ne_self _
  refine ⟨s1.heap.objs.size + 1, [s1.heap.objs.size + 1, s1.heap.objs.size], _, _, H1, rfl, I2, turn_E hne (Nat.ne_of_gt (Nat.lt_succ_of_lt la)) (Nat.ne_of_lt la), ⟨⟨.none, by simpa using he⟩, srcI_new hit⟩, fun b hb => ?_, q hz⟩
  have q' : b = s1.heap.objs.size + 1 ∨ b = s1.heap.objs.size := by simpa using hb
  have hle : s1.heap.objs.size ≤ b := by
    rcases q' with z | z
    · rw [z]; exact Nat.le_add_right _ _
    · rw [z]; exact Nat.le_refl _
  exact I1.fpOk hle (I1.hok.fresh hle)
end L2.NW
end
section
set_option Elab.async false
set_option autoImplicit false
set_option linter.all false
set_option maxRecDepth 100000
set_option maxHeartbeats 1000000
/-! NwJ: zip of two and of three sources. -/
namespace L2.NW
open PySem PySem.Spec PyProof.Rows
def ItZ2 (K : PySem.W.Frag) (k1 k2 : Bool) (a1 a2 : Addr) (xs ys : List V) : It :=
  ⟨fun i H => SrcR K H k1 a1 xs ∧ SrcR K H k2 a2 ys ∧ i < min xs.length ys.length,
   fun i H v H' => ∃ T x y, v = .ref T ∧ H T = none ∧ H' = upd H T (.tup [x, y]) ∧ xs[i]? = some x ∧ ys[i]? = some y,
   fun i H => SrcR K H k1 a1 xs ∧ SrcR K H k2 a2 ys ∧ i = min xs.length ys.length⟩
theorem turn_Z2 {P : Program} {w : World} {K : PySem.W.Frag} {elts : List Expr} {kk : Nat} {tpos : Pos} {k1 k2 : Bool} {a1 a2 z TI TO i1 i2 : Addr} {xs ys : List V} (S : ZipSep2 z TI TO i1 i2 [i1, a1] [i2, a2]) (n1 : a1 ≠ i1) (n2 : a2 ≠ i2) :
    Turn P w K (.Tuple elts kk tpos) (ItZ2 K k1 k2 a1 a2 xs ys) [z, TI, TO, i1, i2] z
      (fun i h => IsZip h z TI TO .none ∧ IsTupOf2 h TI (.ref i1) (.ref i2) ∧ (∃ x y, IsTupOf2 h TO x y) ∧ SrcI h k1 i1 a1 i ∧ SrcI h k2 i2 a2 i) where
  mem := by simp
  obj := fun i h st b hb => by
    obtain ⟨hz, hT, ⟨x, y, hO⟩, h1, h2⟩ := st
    have q : b = z ∨ b = TI ∨ b = TO ∨ b = i1 ∨ b = i2 := by simpa using hb
    rcases q with r | r | r | r | r
    · rw [r]; exact ⟨_, hz, fun v q => nomatch q⟩
    · rw [r]; exact ⟨_, hT, fun v q => nomatch q⟩
    · rw [r]; exact ⟨_, hO, fun v q => nomatch q⟩
    · rw [r]; exact srcI_obj h1
    · rw [r]; exact srcI_obj h2
  keep := fun i h h' st q => by
    obtain ⟨hz, hT, ⟨x, y, hO⟩, h1, h2⟩ := st
    exact ⟨q z (by simp) _ hz, q TI (by simp) _ hT, ⟨x, y, q TO (by simp) _ hO⟩, srcI_at h1 fun o r => q i1 (by simp) o r, srcI_at h2 fun o r => q i2 (by simp) o r⟩
  item := by
    intro X hP hw hK hc i pins s σ H E I hf st hg
    subst hP hw hK
    obtain ⟨hz, hTI, hTO, h1, h2⟩ := st
    obtain ⟨q1, q2, hlt⟩ := hg
    obtain ⟨its, rv, p1, _, _⟩ := Inv.src I q1
    obtain ⟨its2, rv2, p2, _, _⟩ := Inv.src I q2
    have W := WalksT.zipD2 (prog := X.prog) (w := X.w) (A := X.A) S (src_draws (A := X.A.in1) (I.ok.hd hc) k1 n1 its.toArray) (src_draws (A := X.A.in1) (I.ok.hd hc) k2 n2 its2.toArray)
    have l1 := rv.length
    have l2 := rv2.length
    refine W.item i s _ _ (by simp only [List.size_toArray]; omega) ⟨hz, hTI, hTO, ⟨h1, p1⟩, ⟨h2, p2⟩⟩ fun T vals h' tk hp hT htup hMid hk => ⟨_, rfl, ?_⟩
    obtain ⟨x, y, hx, hy, rfl⟩ := hp
    refine W.go elts kk tpos i T _ _ _ hMid fun h'' hst hk2 => ?_
    have lx : i < xs.length := by omega
    have ly : i < ys.length := by omega
    have hx' : its[i]? = some x := by simpa using hx
    have hy' : its2[i]? = some y := by simpa using hy
    have e1 : xs[i]? = some xs[i] := List.getElem?_eq_getElem lx
    have e2 : ys[i]? = some ys[i] := List.getElem?_eq_getElem ly
    obtain ⟨u, hu, ru⟩ := rv.get e1
    obtain ⟨u2, hu2, ru2⟩ := rv2.get e2
    rw [hx'] at hu
    rw [hy'] at hu2
    cases hu
    cases hu2
    have hTw := W.apart _ _ _ hMid
    have hT2 : h''.IsTuple T #[x, y] := htup.at fun o q => hk2 T o hTw q
    have hlt2 : ∀ b ∈ [z, TI, TO, i1, i2], b < s.heap.objs.size := fun b hb => by
      have q : b = z ∨ b = TI ∨ b = TO ∨ b = i1 ∨ b = i2 := by simpa using hb
      rcases q with r | r | r | r | r
      · rw [r]; exact Heap.lt_size hz
      · rw [r]; exact Heap.lt_size hTI
      · rw [r]; obtain ⟨_, _, q⟩ := hTO; exact Heap.lt_size q
      · rw [r]; exact srcI_lt h1
      · rw [r]; exact srcI_lt h2
    have new : ObjOk X.prog X.w (upd H T (.tup [xs[i], ys[i]])) h'' T (.tup [xs[i], ys[i]]) :=
      ⟨by show 2 ≤ sizeLine; decide, [x, y], .cons ru (.cons ru2 .nil), hT2⟩
    have sub : ∀ b ∈ [z, TO, i1, i2], b ∈ [z, TI, TO, i1, i2] := fun b hb => by
      simp only [List.mem_cons, List.not_mem_nil, or_false] at hb ⊢
      rcases hb with r | r | r | r <;> simp [r]
    have I1 := I.turnedNew (t' := tk) (ch := [z, TI, TO, i1, i2]) (fun b o hb q => hk2 b o (fun m => hb (sub b m)) (hk b o (fun m => hb (sub b m)) q)) hf hT new
    exact ⟨.ref T, _, I1, rfl, ⟨T, xs[i], ys[i], rfl, I.hok.fresh hT, rfl, e1, e2⟩, ⟨hst.1, hst.2.1, hst.2.2.1, hst.2.2.2.1.1, hst.2.2.2.2.1⟩, fun b hb => by rw [upd_ne (Nat.ne_of_lt (Nat.lt_of_lt_of_le (hlt2 b hb) hT))]; exact (hf b hb).1⟩
  done := by
    intro X hP hw hK hc i pins s σ H E I hf st hg
    subst hP hw hK
    obtain ⟨hz, hTI, hTO, h1, h2⟩ := st
    obtain ⟨q1, q2, hlt⟩ := hg
    obtain ⟨its, rv, p1, _, _⟩ := Inv.src I q1
    obtain ⟨its2, rv2, p2, _, _⟩ := Inv.src I q2
    have W := WalksT.zipD2 (prog := X.prog) (w := X.w) (A := X.A) S (src_draws (A := X.A.in1) (I.ok.hd hc) k1 n1 its.toArray) (src_draws (A := X.A.in1) (I.ok.hd hc) k2 n2 its2.toArray)
    have l1 := rv.length
    have l2 := rv2.length
    have en : i = min its.toArray.size its2.toArray.size := by simp only [List.size_toArray]; omega
    rw [en] at h1 h2
    have sub : ∀ b ∈ [z, TO, i1, i2], b ∈ [z, TI, TO, i1, i2] := fun b hb => by
      simp only [List.mem_cons, List.not_mem_nil, or_false] at hb ⊢
      rcases hb with r | r | r | r <;> simp [r]
    exact W.done s _ _ ⟨hz, hTI, hTO, ⟨h1, p1⟩, ⟨h2, p2⟩⟩ fun h' tk hk => ⟨rfl, I.turnedL (t' := tk) (fun b o hb q => hk b o (fun m => hb (sub b m)) q) hf⟩
  self := fun A i s Q E st h => wpAny_pyIter_zip st.1 h
def iZipS (K : PySem.W.Frag) (ta : TA) : TI := fun σ H R => ta σ H fun vs H1 => ∃ k1 k2 a b xs ys, vs = [.ref a, .ref b] ∧ SrcR K H1 k1 a xs ∧ SrcR K H1 k2 b ys ∧ (xs.length ≤ sizeLine → ys.length ≤ sizeLine → R (ItZ2 K k1 k2 a b xs ys) H1)
theorem pi_zipS {X : Cx} {e e2 : Expr} {ta : TA} {p pos tpos : Pos} {elts : List Expr} {kk : Nat} (hg : Gl X "zip") (hm : X.mg "zip" = none) (ha : PA X [e, e2] ta)
    (hs : starEach [e, e2] X.env = (false, eval e X.env) :: starEach [e2] X.env := by rfl) (hpl : (backTo pos (starEach [e2] X.env)).any (·.1) = false := by rfl) :
    PI X (.Tuple elts kk tpos) (.Call (.Name "zip" p) [e, e2] [] pos) (iZipS X.K ta) := by
  refine ⟨fun pins s σ H R I h => ?_⟩
  refine Call_ (ld_blt I hg hm PyProof.Rows.boot_zip (PyProof.Rows.callWith_type1 (thn (ha.run pos pins s σ H _ I h) fun us s1 ⟨vs, H1, I1, r1, q1⟩ => ?_) hs hpl))
  obtain ⟨k1, k2, a, b, xs, ys, ex, hqx, hqy, q⟩ := q1
  subst ex
  obtain ⟨u1, u2, rfl, ru1, ru2⟩ := Vals.two r1
  cases ru1
  cases ru2
  obtain ⟨its, rv, p1, z1, la⟩ := Inv.src I1 hqx
  obtain ⟨its2, rv2, p2, z2, lb⟩ := Inv.src I1 hqy
  refine zip_begins2 (src_begins k1 a its.toArray) (src_begins k2 b its2.toArray) p1 p2 fun h' hz hTI hTO h1 h2 hsz hk => wpAny_pyIter_zip hz ?_
  have I2 : Inv X pins σ H1 { s1 with heap := h' } := I1.kept (t' := s1.toks) hk
  refine ⟨s1.heap.objs.size + 4, [s1.heap.objs.size + 4, s1.heap.objs.size + 2, s1.heap.objs.size + 3, s1.heap.objs.size, s1.heap.objs.size + 1], _, _, H1, rfl, I2,
    turn_Z2 (zip_sep2 (N := s1.heap.objs.size) (fp1 := [a]) (fp2 := [b]) (by simpa using la) (by simpa using lb)) (Nat.ne_of_lt la) (Nat.ne_of_lt (Nat.lt_succ_of_lt lb)),
    ⟨hz, hTI, ⟨_, _, hTO⟩, srcI_new h1, srcI_new h2⟩, fun c hcm => ?_, q z1 z2⟩
  have hle : s1.heap.objs.size ≤ c := by
    simp only [List.mem_cons, List.not_mem_nil, or_false] at hcm
    rcases hcm with r | r | r | r | r <;> rw [r] <;> first | exact Nat.le_refl _ | exact Nat.le_add_right _ _
  exact I1.fpOk hle (I1.hok.fresh hle)

theorem Vals.three {x y z : V} {us : List Value} (h : Vals [x, y, z] us) : ∃ u v w, us = [u, v, w] ∧ RelV x u ∧ RelV y v ∧ RelV z w := by
  cases h with
  | cons r1 h =>
    cases h with
    | cons r2 h =>
      cases h with
      | cons r3 h =>
        cases h
        exact ⟨_, _, _, rfl, r1, r2, r3⟩
end L2.NW
end
section
set_option Elab.async false
set_option autoImplicit false
set_option linter.all false
set_option maxRecDepth 100000
set_option maxHeartbeats 1000000
/-! NwF: what is walked, for, comprehensions. -/
namespace L2.NW
open PySem PySem.Spec PyProof.Rows
/-! ### targets -/
inductive Tgt where
  | nm (i : Nat) | nil | cons (t : Tgt) (r : Tgt)
def Tgt.many : Tgt → Nat
  | .cons _ r => r.many + 1
  | _ => 0
mutual
def Tgt.tg (K : PySem.W.Frag) : Tgt → TG
  | .nm i => gName i
  | .nil => gTup K 0 gNil
  | .cons t r => gTup K (r.many + 1) (gCons (Tgt.tg K t) (Tgt.gs K r))
def Tgt.gs (K : PySem.W.Frag) : Tgt → TGs
  | .nm _ => fun _ _ _ _ => False
  | .nil => gNil
  | .cons t r => gCons (Tgt.tg K t) (Tgt.gs K r)
end
mutual
/-- data stored in a target -/
def Tgt.st : Tgt → D → Env' → Option Env'
  | .nm i, d, ρ => some (ρ.set i (.val d))
  | .nil, .tup [], ρ => some ρ
  | .cons t r, .tup (d :: l), ρ => (Tgt.st t d ρ).bind (Tgt.sts r l)
  | _, _, _ => none
def Tgt.sts : Tgt → List D → Env' → Option Env'
  | .nil, [], ρ => some ρ
  | .cons t r, d :: l, ρ => (Tgt.st t d ρ).bind (Tgt.sts r l)
  | _, _, _ => none
end
def Tgt.slots : Tgt → List Nat
  | .nm i => [i]
  | .nil => []
  | .cons t r => t.slots ++ r.slots
theorem Tgt.sts_many : ∀ {r : Tgt} {l : List D} {ρ ρ' : Env'}, Tgt.sts r l ρ = some ρ' → l.length = r.many
  | .nm _, l, ρ, ρ', h => by cases l <;> simp [Tgt.sts] at h
  | .nil, [], ρ, ρ', h => rfl
  | .nil, _ :: _, ρ, ρ', h => by simp [Tgt.sts] at h
  | .cons t r, [], ρ, ρ', h => by simp [Tgt.sts] at h
  | .cons t r, d :: l, ρ, ρ', h => by
    simp only [Tgt.sts] at h
    cases e : Tgt.st t d ρ with
    | none => rw [e] at h; cases h
    | some ρ1 =>
      rw [e] at h
      simp [Tgt.many, Tgt.sts_many (r := r) (l := l) h]
mutual
theorem Tgt.st_len : ∀ {t : Tgt} {d : D} {ρ ρ' : Env'}, Tgt.st t d ρ = some ρ' → ρ'.length = ρ.length
  | .nm i, d, ρ, ρ', h => by simp only [Tgt.st, Option.some.injEq] at h; subst h; simp
  | .nil, d, ρ, ρ', h => by
    cases d <;> try (simp [Tgt.st] at h; done)
    rename_i l
    cases l <;> simp [Tgt.st] at h
    rw [h]
  | .cons t r, d, ρ, ρ', h => by
    cases d <;> try (simp [Tgt.st] at h; done)
    rename_i l
    cases l with
    | nil => simp [Tgt.st] at h
    | cons d l =>
      simp only [Tgt.st] at h
      cases e1 : Tgt.st t d ρ with
      | none => rw [e1] at h; cases h
      | some ρ1 => rw [e1] at h; rw [Tgt.sts_len h, Tgt.st_len e1]
theorem Tgt.sts_len : ∀ {t : Tgt} {l : List D} {ρ ρ' : Env'}, Tgt.sts t l ρ = some ρ' → ρ'.length = ρ.length
  | .nm i, l, ρ, ρ', h => by cases l <;> simp [Tgt.sts] at h
  | .nil, [], ρ, ρ', h => by simp only [Tgt.sts, Option.some.injEq] at h; rw [h]
  | .nil, _ :: _, ρ, ρ', h => by simp [Tgt.sts] at h
  | .cons t r, [], ρ, ρ', h => by simp [Tgt.sts] at h
  | .cons t r, d :: l, ρ, ρ', h => by
    simp only [Tgt.sts] at h
    cases e1 : Tgt.st t d ρ with
    | none => rw [e1] at h; cases h
    | some ρ1 => rw [e1] at h; rw [Tgt.sts_len h, Tgt.st_len e1]
end
section
variable {S : Sx} {κ : Cp} {I H : Hp}
mutual
theorem Tgt.tg_ok (sub : Same I H) : ∀ {t : Tgt} {d : D} {v : V} {ρ ρ' : Env'} {σ : St} {Q : St → Hp → Prop}, Tgt.st t d ρ = some ρ' → Rp S I d v → ER S κ I H ρ σ →
    (∀ σ', ER S κ I H ρ' σ' → (∀ j, j ∉ t.slots → σ'[j]? = σ[j]?) → Q σ' H) → t.tg S.K v σ H Q
  | .nm i, d, v, ρ, ρ', σ, Q, h, r, e, k => by
    simp only [Tgt.st, Option.some.injEq] at h
    subst h
    simp only [Tgt.tg]
    exact k _ (e.setVal r) fun j hj => List.getElem?_set_ne (fun z => hj (by simp [Tgt.slots, z]))
  | .nil, d, v, ρ, ρ', σ, Q, h, r, e, k => by
    cases d <;> try (simp [Tgt.st] at h; done)
    rename_i l
    cases l with
    | cons _ _ => simp [Tgt.st] at h
    | nil =>
      simp only [Tgt.st, Option.some.injEq] at h
      subst h
      simp only [Rp] at r
      obtain ⟨a, vs, rfl, ha, r⟩ := r
      simp only [Rps] at r
      subst r
      simp only [Tgt.tg]
      exact ⟨a, [], rfl, SqT_same sub ha, rfl, rfl, k σ e fun _ _ => rfl⟩
  | .cons t r, d, v, ρ, ρ', σ, Q, h, rp, e, k => by
    cases d <;> try (simp [Tgt.st] at h; done)
    rename_i l
    cases l with
    | nil => simp [Tgt.st] at h
    | cons d l =>
      simp only [Tgt.st] at h
      cases e1 : Tgt.st t d ρ with
      | none => rw [e1] at h; cases h
      | some ρ1 =>
        rw [e1] at h
        have hm := Tgt.sts_many h
        simp only [Rp] at rp
        obtain ⟨a, vs, rfl, ha, rs⟩ := rp
        have hl := rs.len
        simp only [Rps] at rs
        obtain ⟨v1, ws, rfl, r1, r2⟩ := rs
        simp only [Tgt.tg]
        refine ⟨a, v1 :: ws, rfl, SqT_same sub ha, by simp [← r2.len, hm], v1, ws, rfl, Tgt.tg_ok sub e1 r1 e fun σ1 er1 f1 => ?_⟩
        exact Tgt.gs_ok sub h r2 er1 fun σ2 er2 f2 => k σ2 er2 fun j hj => by
          simp only [Tgt.slots, List.mem_append, not_or] at hj
          rw [f2 j hj.2, f1 j hj.1]
theorem Tgt.gs_ok (sub : Same I H) : ∀ {t : Tgt} {l : List D} {vs : List V} {ρ ρ' : Env'} {σ : St} {Q : St → Hp → Prop}, Tgt.sts t l ρ = some ρ' → Rps S I l vs → ER S κ I H ρ σ →
    (∀ σ', ER S κ I H ρ' σ' → (∀ j, j ∉ t.slots → σ'[j]? = σ[j]?) → Q σ' H) → t.gs S.K vs σ H Q
  | .nm i, l, vs, ρ, ρ', σ, Q, h, r, e, k => by cases l <;> simp [Tgt.sts] at h
  | .nil, [], vs, ρ, ρ', σ, Q, h, r, e, k => by
    simp only [Tgt.sts, Option.some.injEq] at h
    subst h
    simp only [Rps] at r
    subst r
    simp only [Tgt.gs]
    exact ⟨rfl, k σ e fun _ _ => rfl⟩
  | .nil, _ :: _, vs, ρ, ρ', σ, Q, h, r, e, k => by simp [Tgt.sts] at h
  | .cons t r, [], vs, ρ, ρ', σ, Q, h, rp, e, k => by simp [Tgt.sts] at h
  | .cons t r, d :: l, vs, ρ, ρ', σ, Q, h, rs, e, k => by
    simp only [Tgt.sts] at h
    cases e1 : Tgt.st t d ρ with
    | none => rw [e1] at h; cases h
    | some ρ1 =>
      rw [e1] at h
      simp only [Rps] at rs
      obtain ⟨v1, ws, rfl, r1, r2⟩ := rs
      simp only [Tgt.gs]
      refine ⟨v1, ws, rfl, Tgt.tg_ok sub e1 r1 e fun σ1 er1 f1 => ?_⟩
      exact Tgt.gs_ok sub h r2 er1 fun σ2 er2 f2 => k σ2 er2 fun j hj => by
        simp only [Tgt.slots, List.mem_append, not_or] at hj
        rw [f2 j hj.2, f1 j hj.1]
end
end
/-! ### what is walked, as data -/
structure ItD (S : Sx) (J : It) (xs : List D) (I1 : Hp) : Prop where
  sz : xs.length ≤ sizeLine
  stop : ∀ I H, Same I1 I → Same I H → J.stop xs.length H
  go : ∀ (i : Nat) I H, i < xs.length → Same I1 I → Same I H → J.go i H
  yld : ∀ (i : Nat) d I H b x H', xs[i]? = some d → Same I1 I → SR S I H b → J.yld i H x H' → ∃ I', Stp S I H I' H' ∧ SR S I' H' b ∧ Rp S I' d x
def tDI (S : Sx) (κ : Cp) (W : WX) (t : AW) : TI := fun σ H R => ∃ I ρ b, SR S I H b ∧ ER S κ I H ρ σ ∧
  (t ρ).run b (fun xs b' => ∀ J I' H', Stp S I H I' H' → SR S I' H' b' → ItD S J xs I' → R J H') (KX S I H fun cls d H' => W cls d σ H')
def DI (X : Cx) (κ : Cp) (W : WX) (tg e : Expr) (t : AW) : Prop := PI X tg e (tDI (Sx.of X κ) κ W t)
theorem PI.imp {X : Cx} {tg e : Expr} {t t' : TI} (h : PI X tg e t) (i : ∀ σ H Q, t' σ H Q → t σ H Q) : PI X tg e t' := ⟨fun pins s σ H Q I hq => h.run pins s σ H Q I (i σ H Q hq)⟩

section
variable {S : Sx}
theorem Rps.srcT {I : Hp} {l : List D} {vs : List V} {i : Nat} {d : D} {x : V} (r : Rps S I l vs) (h : l[i]? = some d) (hx : vs[i]? = some x) : Rp S I d x := by
  obtain ⟨v, h1, h2⟩ := r.get h
  rw [hx] at h1
  cases h1
  exact h2
/-- the items themselves -/
theorem itd_tup {I1 : Hp} {a : Addr} {xs : List D} {vs : List V} (ha : SqT S.K I1 a vs) (r : Rps S I1 xs vs) (hz : xs.length ≤ sizeLine) : ItD S (Itt S.K a) xs I1 where
  sz := hz
  stop := fun I H s1 s2 => ⟨vs, SqT_same (s1.trans s2) ha, by rw [r.len]; exact Nat.le_refl _⟩
  go := fun i I H hi s1 s2 => ⟨vs, _, SqT_same (s1.trans s2) ha, List.getElem?_eq_getElem (r.len ▸ hi)⟩
  yld := fun i d I H b x H' hd s1 sr y => by
    obtain ⟨rfl, y⟩ := y
    exact ⟨I, .refl, sr, r.srcT hd (y vs (SqT_same (s1.trans sr.sub) ha)) |>.same s1⟩
theorem itd_lst {I1 : Hp} {a : Addr} {xs : List D} {vs : List V} (ha : I1 a = some (.lst vs)) (r : Rps S I1 xs vs) (hz : xs.length ≤ sizeLine) : ItD S (Itl S.K a) xs I1 where
  sz := hz
  stop := fun I H s1 s2 => ⟨vs, SqL.of (s2 _ _ (s1 _ _ ha)), by rw [r.len]; exact Nat.le_refl _⟩
  go := fun i I H hi s1 s2 => ⟨vs, _, SqL.of (s2 _ _ (s1 _ _ ha)), List.getElem?_eq_getElem (r.len ▸ hi)⟩
  yld := fun i d I H b x H' hd s1 sr y => by
    obtain ⟨rfl, y⟩ := y
    exact ⟨I, .refl, sr, r.srcT hd (y vs (SqL.of (sr.sub _ _ (s1 _ _ ha)))) |>.same s1⟩
/-- a range -/
def rangeL (lo : Int) (n : Nat) : List D := (List.range n).map fun i => D.int (lo + (i : Nat))
theorem itd_range {I1 : Hp} {lo : Int} {n : Nat} (hz : n ≤ sizeLine) : ItD S (Itr lo n) (rangeL lo n) I1 where
  sz := by simpa [rangeL] using hz
  stop := fun I H s1 s2 => by simp only [rangeL, List.length_map, List.length_range]; exact Nat.le_refl _
  go := fun i I H hi s1 s2 => by
    have : i < n := by simpa [rangeL] using hi
    exact this
  yld := fun i d I H b x H' hd s1 sr y => by
    obtain ⟨e, rfl⟩ := y
    have e : H' = H := e
    subst e
    refine ⟨I, .refl, sr, ?_⟩
    simp only [rangeL, List.getElem?_map] at hd
    cases q : (List.range n)[i]? with
    | none => rw [q] at hd; cases hd
    | some j =>
      rw [q] at hd
      cases hd
      have : j = i := by
        obtain ⟨_, q2⟩ := List.getElem?_eq_some_iff.mp q
        simpa using q2.symm
      subst this
      simp [Rp]
/-- a new tuple each time -/
theorem yld_new {I H H' : Hp} {b : Nat} {T : Addr} {l : List D} {vs : List V} (sr : SR S I H b) (hT : H T = none) (e : H' = upd H T (.tup vs)) (r : Rps S I l vs) : ∃ I', Stp S I H I' H' ∧ SR S I' H' b ∧ Rp S I' (.tup l) (.ref T) := by
  subst e
  exact ⟨_, .new sr.sub hT, sr.new hT, .tup sr.sub hT r⟩
theorem SrcR.same {K : PySem.W.Frag} {H H' : Hp} {k : Bool} {a : Addr} {xs : List V} (e : Same H H') (h : SrcR K H k a xs) : SrcR K H' k a xs := by
  cases k
  · exact e.seq h
  · exact SqT_same e h
def enumL (xs : List D) : List D := xs.zipIdx.map fun p => D.tup [.int (p.2 : Nat), p.1]
theorem enumL_get {xs : List D} {i : Nat} {d : D} (h : (enumL xs)[i]? = some d) : ∃ x, xs[i]? = some x ∧ d = .tup [.int (i : Nat), x] := by
  unfold enumL at h
  rw [List.getElem?_map, List.getElem?_zipIdx] at h
  cases e : xs[i]? with
  | none => rw [e] at h; cases h
  | some x => rw [e] at h; cases h; exact ⟨x, rfl, by simp⟩
theorem itd_enum {I1 : Hp} {k : Bool} {a : Addr} {xs : List D} {vs : List V} (ha : SrcR S.K I1 k a vs) (r : Rps S I1 xs vs) (hz : xs.length ≤ sizeLine) : ItD S (ItE S.K k a vs) (enumL xs) I1 where
  sz := by simpa [enumL] using hz
  stop := fun I H s1 s2 => ⟨ha.same (s1.trans s2), by simp [enumL, r.len]⟩
  go := fun i I H hi s1 s2 => ⟨ha.same (s1.trans s2), by simpa [enumL, r.len] using hi⟩
  yld := fun i d I H b x H' hd s1 sr y => by
    obtain ⟨T, x0, rfl, hT, e, hx⟩ := y
    obtain ⟨d0, h1, rfl⟩ := enumL_get hd
    exact yld_new sr hT e (.cons (by simp [Rp]) (.cons ((r.srcT h1 hx).same s1) .nil))
def zipL (xs ys : List D) : List D := List.zipWith (fun x y => D.tup [x, y]) xs ys
theorem itd_zip {I1 : Hp} {k1 k2 : Bool} {a1 a2 : Addr} {xs ys : List D} {vs ws : List V} (h1 : SrcR S.K I1 k1 a1 vs) (h2 : SrcR S.K I1 k2 a2 ws) (r1 : Rps S I1 xs vs) (r2 : Rps S I1 ys ws) (hz : xs.length ≤ sizeLine) :
    ItD S (ItZ2 S.K k1 k2 a1 a2 vs ws) (zipL xs ys) I1 where
  sz := by simp only [zipL, List.length_zipWith]; omega
  stop := fun I H s1 s2 => ⟨h1.same (s1.trans s2), h2.same (s1.trans s2), by simp [zipL, r1.len, r2.len]⟩
  go := fun i I H hi s1 s2 => ⟨h1.same (s1.trans s2), h2.same (s1.trans s2), by simpa [zipL, r1.len, r2.len] using hi⟩
  yld := fun i d I H b x H' hd s1 sr y => by
    obtain ⟨T, x0, y0, rfl, hT, e, hx, hy⟩ := y
    unfold zipL at hd
    rw [List.getElem?_zipWith] at hd
    obtain ⟨d1, q1, p1⟩ := r1.of_get hx
    obtain ⟨d2, q2, p2⟩ := r2.of_get hy
    rw [q1, q2] at hd
    cases hd
    exact yld_new sr hT e (.cons (p1.same s1) (.cons (p2.same s1) .nil))
def zip3L (xs ys zs : List D) : List D := List.zipWith (fun x yz => D.tup [x, yz.1, yz.2]) xs (List.zip ys zs)
end
/-! ### what may stand behind in -/
def seqOf : D → WP (List D)
  | .tup l => pure l
  | .lst l => pure l
  | _ => WP.bad
theorem Rp.src {S : Sx} {I : Hp} {d : D} {v : V} {l : List D} (r : Rp S I d v) (h : d = .tup l ∨ d = .lst l) : ∃ k a vs, v = .ref a ∧ SrcR S.K I k a vs ∧ Rps S I l vs ∧ (k = true → SqT S.K I a vs) ∧ (k = false → I a = some (.lst vs)) := by
  rcases h with rfl | rfl
  · simp only [Rp] at r
    obtain ⟨a, vs, rfl, h1, h2⟩ := r
    exact ⟨true, a, vs, rfl, h1, h2, fun _ => h1, fun z => Bool.noConfusion z⟩
  · simp only [Rp] at r
    obtain ⟨a, vs, rfl, h1, h2⟩ := r
    exact ⟨false, a, vs, rfl, SqL.of h1, h2, fun z => Bool.noConfusion z, fun _ => h1⟩
theorem seqOf_run {d : D} {b : Nat} {Q : List D → Nat → Prop} {E : Ex → Nat → Prop} (h : (seqOf d).run b Q E) : ∃ l, (d = .tup l ∨ d = .lst l) ∧ Q l b := by
  cases d <;> first | exact h.elim | skip
  · exact ⟨_, .inl rfl, h⟩
  · exact ⟨_, .inr rfl, h⟩
section
variable {X : Cx} {κ : Cp} {W : WX} {tg e f g : Expr} {pos pn : Pos} {te tf : EW} {ts : AW}
/-- a list or a tuple is walked -/
def iSeq (K : PySem.W.Frag) (tl : TE) : TI := fun σ H R => tl σ H fun x H1 => ∃ k a xs, x = .ref a ∧ SrcR K H1 k a xs ∧ (xs.length ≤ sizeLine → R (cond k (Itt K a) (Itl K a)) H1)
theorem pi_seqS {tl : TE} (hl : PE X e tl) : PI X tg e (iSeq X.K tl) := by
  refine ⟨fun pins s σ H R I h => ?_⟩
  refine thn (hl.run pins s σ H _ I h) fun v s1 ⟨x, H1, I1, r1, q1⟩ => ?_
  obtain ⟨k, a, xs, ex, hq, q⟩ := q1
  subst ex
  cases r1
  have fp : ∀ b ∈ [s1.heap.objs.size], FpOk X pins H1 b := fun b hb => by
    have z : b = s1.heap.objs.size := by simpa using hb
    subst z
    exact I1.fpOk (Nat.le_refl _) (I1.hok.fresh (Nat.le_refl _))
  cases k with
  | false =>
    obtain ⟨its, rv, p, hz⟩ := I1.list hq
    refine wpAny_pyIter_list p.isList ?_
    exact ⟨s1.heap.objs.size, [s1.heap.objs.size], _, _, H1, rfl, I1.kept (t' := s1.toks) fun b o z => Heap.get?_push_of_some _ z, turn_list a _, ⟨_, Heap.get?_push_size _ rfl, rfl, rfl⟩, fp, q hz⟩
  | true =>
    obtain ⟨its, rv, p, hz⟩ := I1.tuple hq
    refine wpAny_pyIter_tuple (show s1.heap.IsTuple a its.toArray from p) ?_
    exact ⟨s1.heap.objs.size, [s1.heap.objs.size], _, _, H1, rfl, I1.kept (t' := s1.toks) fun b o z => Heap.get?_push_of_some _ z, turn_tuple a _, ⟨_, Heap.get?_push_size _ rfl, rfl, rfl⟩, fp, q hz⟩
theorem di_seq (he : DE X κ W e te) : DI X κ W tg e (fun ρ => te ρ >>= seqOf) :=
  PI.imp (pi_seqS he) fun σ H R ⟨I, ρ, b, sr, er, h⟩ => tD_bind sr er h fun d b1 v I1 H1 x1 s1 er1 r1 h1 => by
    obtain ⟨l, hl, h1⟩ := seqOf_run h1
    obtain ⟨k, a, vs, rfl, hs, rs, ht, hf⟩ := r1.src hl
    refine ⟨k, a, vs, rfl, hs.same s1.sub, fun hz => h1 _ I1 H1 x1 s1 ?_⟩
    cases k with
    | true => exact itd_tup (ht rfl) rs (rs.len ▸ hz)
    | false => exact itd_lst (hf rfl) rs (rs.len ▸ hz)
def rng1 : List D → WP (List D)
  | [.int j] => WP.need (-(2 ^ 62) ≤ j ∧ j.toNat ≤ sizeLine) (pure (rangeL 0 j.toNat))
  | _ => WP.bad
def rng2 : List D → WP (List D)
  | [.int i, .int j] => WP.need ((-(2 ^ 62) ≤ i ∧ i < 2 ^ 62 ∧ -(2 ^ 62) ≤ j ∧ j < 2 ^ 62) ∧ (j - i).toNat ≤ sizeLine) (pure (rangeL i (j - i).toNat))
  | _ => WP.bad
theorem rps1 {S : Sx} {I : Hp} {d : D} {vs : List V} (r : Rps S I [d] vs) : ∃ v, vs = [v] ∧ Rp S I d v := by
  simp only [Rps] at r
  obtain ⟨v, ws, rfl, h, rfl⟩ := r
  exact ⟨v, rfl, h⟩
theorem rps2 {S : Sx} {I : Hp} {d d2 : D} {vs : List V} (r : Rps S I [d, d2] vs) : ∃ v w, vs = [v, w] ∧ Rp S I d v ∧ Rp S I d2 w := by
  simp only [Rps] at r
  obtain ⟨v, ws, rfl, h, w, _, rfl, h2, rfl⟩ := r
  exact ⟨v, w, rfl, h, h2⟩
theorem di_range1 (hg : Gl X "range") (hm : X.mg "range" = none) (ha : DA X κ W [e] ts) (hs : starEach [e] X.env = [(false, eval e X.env)] := by rfl) : DI X κ W tg (.Call (.Name "range" pn) [e] [] pos) (fun ρ => ts ρ >>= rng1) :=
  PI.imp (pi_range1 hg hm ha hs) fun σ H R ⟨I, ρ, b, sr, er, h⟩ => tDA_bind sr er h fun d b1 v I1 H1 x1 s1 er1 r1 h1 => by
    unfold rng1 at h1
    split at h1
    · rename_i j
      obtain ⟨w, rfl, hw⟩ := rps1 r1
      simp only [Rp] at hw
      obtain ⟨⟨h2, h3⟩, h4⟩ := h1
      have hz := sizeLine_eq
      exact ⟨j, by rw [hw], h2, by omega, h4 _ I1 H1 x1 s1 (itd_range h3)⟩
    · exact h1.elim
def enum1 : List D → WP (List D)
  | [d] => do let l ← seqOf d; pure (enumL l)
  | _ => WP.bad
def zip2 : List D → WP (List D)
  | [d, e] => do let l ← seqOf d; let m ← seqOf e; pure (zipL l m)
  | _ => WP.bad
def zip3 : List D → WP (List D)
  | [d, e, f] => do let l ← seqOf d; let m ← seqOf e; let n ← seqOf f; pure (zip3L l m n)
  | _ => WP.bad
variable {elts : List Expr} {kk : Nat} {tpos : Pos}
theorem di_enum (hg : Gl X "enumerate") (hm : X.mg "enumerate" = none) (ha : DA X κ W [e] ts) (hs : starEach [e] X.env = [(false, eval e X.env)] := by rfl) : DI X κ W (.Tuple elts kk tpos) (.Call (.Name "enumerate" pn) [e] [] pos) (fun ρ => ts ρ >>= enum1) :=
  PI.imp (pi_enumS hg hm ha hs) fun σ H R ⟨I, ρ, b, sr, er, h⟩ => tDA_bind sr er h fun d b1 v I1 H1 x1 s1 er1 r1 h1 => by
    unfold enum1 at h1
    split at h1
    · rename_i d
      obtain ⟨w, rfl, hw⟩ := rps1 r1
      obtain ⟨l, hl, h1⟩ := seqOf_run h1
      obtain ⟨k, a, vs, rfl, hs, rs, _, _⟩ := hw.src hl
      exact ⟨k, a, vs, rfl, hs.same s1.sub, fun hz => h1 _ I1 H1 x1 s1 (itd_enum hs rs (rs.len ▸ hz))⟩
    · exact h1.elim
theorem di_zip (hg : Gl X "zip") (hm : X.mg "zip" = none) (ha : DA X κ W [e, f] ts) (hs : starEach [e, f] X.env = (false, eval e X.env) :: starEach [f] X.env := by rfl) (hpl : (backTo pos (starEach [f] X.env)).any (·.1) = false := by rfl) :
    DI X κ W (.Tuple elts kk tpos) (.Call (.Name "zip" pn) [e, f] [] pos) (fun ρ => ts ρ >>= zip2) :=
  PI.imp (pi_zipS hg hm ha hs hpl) fun σ H R ⟨I, ρ, b, sr, er, h⟩ => tDA_bind sr er h fun d b1 v I1 H1 x1 s1 er1 r1 h1 => by
    unfold zip2 at h1
    split at h1
    · rename_i d d'
      obtain ⟨w, u, rfl, hw, hu⟩ := rps2 r1
      obtain ⟨l, hl, h1⟩ := seqOf_run h1
      obtain ⟨m, hm, h1⟩ := seqOf_run h1
      obtain ⟨k, a, vs, rfl, hs, rs, _, _⟩ := hw.src hl
      obtain ⟨k2, a2, vs2, rfl, hs2, rs2, _, _⟩ := hu.src hm
      exact ⟨k, k2, a, a2, vs, vs2, rfl, hs.same s1.sub, hs2.same s1.sub, fun hz _ => h1 _ I1 H1 x1 s1 (itd_zip hs hs2 rs rs2 (rs.len ▸ hz))⟩
    · exact h1.elim
end
/-! ### for -/
def forL (t : Tgt) (tb : SW) : List D → SW
  | [], ρ => pure (.nx ρ)
  | d :: l, ρ => match t.st d ρ with
    | none => WP.bad
    | some ρ1 => do
      let f ← tb ρ1
      match f with
      | .nx ρ2 => forL t tb l ρ2
      | .ct ρ2 => forL t tb l ρ2
      | .bk ρ2 => pure (.nx ρ2)
      | .rt d => pure (.rt d)
def sFor (ti : AW) (t : Tgt) (tb : SW) : SW := fun ρ => do let xs ← ti ρ; forL t tb xs ρ
section
variable {X : Cx} {κ : Cp} {E : XK} {tg it : Expr} {body : List Stmt} {pos : Pos} {ti : AW} {t : Tgt} {tb : SW}
theorem drop_cons' {α : Type} {l : List α} {i : Nat} (h : i < l.length) : l.drop i = l[i] :: l.drop (i + 1) := List.drop_eq_getElem_cons h
theorem ds_for (hp : PassesOwn (model X.prog X.w) X.A X.env X.xe) (hc : X.calm = true) (hi : DI X κ (wOf E) tg it ti) (hg : PG X tg (t.tg X.K)) (hb : DSs X κ E body tb) (hs : ∀ x, foldedSetIterable it X.env x = pure x := by intro _; rfl) :
    DS X κ E (.For tg it body [] pos) (sFor ti t tb) :=
  PS.imp (ps_for hp hc hi hg hb hs) fun D σ H ⟨I, ρ, b, w, h⟩ => by
    refine ⟨I, ρ, b, w.sr, w.er, (ti ρ).mono h (fun xs b1 h1 J I1 H1 x1 s1 it => ?_) fun _ _ z => z.kx w.st⟩
    refine ⟨fun i m σ H => ∃ I2 ρ2 b2, m = xs.length - i ∧ i ≤ xs.length ∧ Same I1 I2 ∧ WOk (Sx.of X κ) κ I2 H b2 ρ2 σ ∧ (forL t tb (xs.drop i) ρ2).run b2 (KF (Sx.of X κ) κ I2 D) (KXs (Sx.of X κ) κ E),
      ⟨xs.length, I1, ρ, b1, by simp, Nat.zero_le _, fun _ _ z => z, w.stp x1 s1, (forL t tb xs ρ).mono h1 (fun _ _ z => z.later x1.ii) fun _ _ z => z⟩, ?_⟩
    rintro i m σ2 H2 ⟨I2, ρ2, b2, rfl, hi, i2, w2, h2⟩
    by_cases hlt : i < xs.length
    · rw [drop_cons' hlt] at h2
      refine .inr ⟨it.go i I2 H2 hlt i2 w2.sr.sub, fun σ' H' => ∃ I3 ρ3 b3, i + 1 ≤ xs.length ∧ Same I1 I3 ∧ WOk (Sx.of X κ) κ I3 H' b3 ρ3 σ' ∧ (forL t tb (xs.drop (i + 1)) ρ3).run b3 (KF (Sx.of X κ) κ I3 D) (KXs (Sx.of X κ) κ E),
        fun σ' H' ⟨I3, ρ3, b3, h3, i3, w3, q3⟩ => ⟨xs.length - (i + 1), by omega, I3, ρ3, b3, rfl, h3, i3, w3, q3⟩, fun v H3 y => ?_⟩
      obtain ⟨I3, x3, s3, r3⟩ := it.yld i _ I2 H2 b2 v H3 (List.getElem?_eq_getElem hlt) i2 w2.sr y
      have w3 := w2.stp x3 s3
      have i3 := i2.trans x3.ii
      unfold forL at h2
      cases e : t.st xs[i] ρ2 with
      | none => rw [e] at h2; exact h2.elim
      | some ρ3 =>
        rw [e] at h2
        refine Tgt.tg_ok (S := Sx.of X κ) (κ := κ) (I := I3) s3.sub e r3 w3.er fun σ4 er4 _ => ?_
        refine ⟨I3, ρ3, b2, ⟨s3, er4, w3.st⟩, (tb ρ3).mono h2 (fun f b5 h5 => ?_) fun _ _ z => z⟩
        cases f with
        | nx ρ5 => exact fun σ6 I6 H6 w6 i6 => ⟨I6, ρ5, b5, hlt, i3.trans i6, w6, (forL t tb _ ρ5).mono h5 (fun _ _ z => z.later (x3.ii.trans i6)) fun _ _ z => z⟩
        | ct ρ5 => exact fun σ6 I6 H6 w6 i6 => ⟨I6, ρ5, b5, hlt, i3.trans i6, w6, (forL t tb _ ρ5).mono h5 (fun _ _ z => z.later (x3.ii.trans i6)) fun _ _ z => z⟩
        | bk ρ5 => exact fun σ6 I6 H6 w6 i6 => h5 σ6 I6 H6 w6 (x3.ii.trans i6)
        | rt d => exact h5
    · have hi' : i = xs.length := by omega
      subst hi'
      rw [List.drop_length] at h2
      exact .inl ⟨it.stop I2 H2 i2 w2.sr.sub, h2 σ2 I2 H2 w2 fun _ _ z => z⟩
end
end L2.NW
end
section
set_option Elab.async false
set_option autoImplicit false
set_option linter.all false
set_option maxRecDepth 100000
set_option maxHeartbeats 1000000
/-! NwG: new lists: comprehensions, displays; what is made of them. -/
namespace L2.NW
open PySem PySem.Spec PyProof.Rows
/-! ### a new list -/
def KL (S : Sx) (I H : Hp) (Q : VK) (l : List D) (b : Nat) : Prop := ∀ a vs I' H', Stp S I H I' H' → SR S I' H' b → ¬ Nt H a → I' a = none → H' a = some (.lst vs) → Rps S I' l vs → Q (.ref a) H'
def tDL (S : Sx) (κ : Cp) (W : WX) (t : AW) : TE := fun σ H Q => ∃ I ρ b, SR S I H b ∧ ER S κ I H ρ σ ∧ (t ρ).run b (KL S I H Q) (KX S I H fun cls d H' => W cls d σ H')
def DL (X : Cx) (κ : Cp) (W : WX) (e : Expr) (t : AW) : Prop := PE X e (tDL (Sx.of X κ) κ W t)
/-- what is ours becomes a thing that never changes -/
theorem Stp.freeze {S : Sx} {I H I' H' : Hp} {a : Addr} {o : HO} (x : Stp S I H I' H') (h : ¬ Nt H a) (hi : I' a = none) : Stp S I H (upd I' a o) H' := by
  refine ⟨fun b u e => ?_, x.hh, fun b e n => ?_, x.tt⟩
  · rw [upd_ne (ne_of_none (x.ii b u e) hi)]; exact x.ii b u e
  · have : b ≠ a := fun z => h (by rw [← z]; exact e)
    rw [upd_ne this]; exact x.nn b e n
theorem SR.freeze {S : Sx} {I H : Hp} {b : Nat} {a : Addr} {o : HO} (s : SR S I H b) (h : H a = some o) (hi : I a = none) (hp : a ≠ S.p.a) (n : Plain' o := by first | exact plain_lst | exact plain_ins | exact plain_own | exact plain_tup | exact plain_dK | exact plain_gdo) : SR S (upd I a o) H b := by
  obtain ⟨ca, q, e1, e2, ok⟩ := s.pen
  refine ⟨fun c u e => ?_, by rw [upd_ne (Ne.symm hp)]; exact s.pn, ⟨ca, q, e1, by rw [upd_ne (ne_of_none e2 hi)]; exact e2, ok⟩, s.tb, fun c ps z => ?_, fun c q e => ?_, fun c o e => by rw [upd_ne (ne_of_none (s.ci c o e) hi)]; exact s.ci c o e⟩
  · by_cases hc : c = a
    · subst hc; rw [upd_same] at e; cases e; exact h
    · rw [upd_ne hc] at e; exact s.sub c u e
  · by_cases hc : c = a
    · subst hc; rw [upd_same] at z; cases z; exact n.1 trivial
    · rw [upd_ne hc] at z; exact s.nt c ps z
  · have z := s.cd c q e
    rw [upd_ne (ne_of_none z hi)]; exact z
theorem same_upd {I : Hp} {a : Addr} {o : HO} (hi : I a = none) : Same I (upd I a o) := fun b u e => by rw [upd_ne (ne_of_none e hi)]; exact e
theorem SR.pne {S : Sx} {I H : Hp} {b : Nat} {a : Addr} (s : SR S I H b) (h : ¬ Nt H a) : a ≠ S.p.a := fun z => by
  obtain ⟨ca, q, e, _⟩ := s.pen
  exact h ⟨_, by rw [z]; exact e, id⟩
section
variable {X : Cx} {κ : Cp} {W : WX} {e : Expr} {es : List Expr} {pos : Pos} {ts : AW}
/-- a new list as data -/
theorem de_ofL (h : DL X κ W e ts) : DE X κ W e (fun ρ => do let l ← ts ρ; pure (.lst l)) :=
  PE.imp h fun σ H Q ⟨I, ρ, b, sr, er, h⟩ => ⟨I, ρ, b, sr, er, (ts ρ).mono h (fun l b' k a vs I' H' x s ha hi hl r => by
    exact k (.ref a) (upd I' a (.lst vs)) H' (x.freeze ha hi) (s.freeze hl hi (sr.pne ha)) (by
      simp only [Rp]
      exact ⟨a, vs, rfl, upd_same, r.same (same_upd hi)⟩)) fun _ _ z => z⟩
theorem dl_lst (h : DA X κ W es ts) : DL X κ W (.List es pos) (fun ρ => do let xs ← ts ρ; WP.need (xs.length ≤ sizeLine) (pure xs)) :=
  PE.imp (pe_lst h) fun σ H Q ⟨I, ρ, b, sr, er, h⟩ => tDA_bind sr er h fun d b1 v I1 H1 x1 s1 er1 r1 ⟨hz, h1⟩ =>
    ⟨r1.len ▸ hz, fun q hq => h1 q v I1 (upd H1 q (.lst v)) (x1.trans (.newOwn hq)) (s1.newOwn hq) (fun z => not_nt hq (x1.tt q z)) (s1.sub.free hq) upd_same r1⟩
end
/-! ### comprehensions -/
def wipeD (ρ : Env') : List Nat → Env'
  | [] => ρ
  | v :: vs => (wipeD ρ vs).set v .no
theorem ER.setNo {S : Sx} {κ : Cp} {I H : Hp} {ρ : Env'} {σ : St} {i : Nat} {o : Option V} (e : ER S κ I H ρ σ) : ER S κ I H (ρ.set i .no) (σ.set i o) := by
  refine ⟨by simp [e.len], fun j s o h1 h2 => ?_, fun j k s t a h1 h2 o1 o2 h3 h4 => ?_⟩
  · by_cases hj : i = j
    · subst hj
      have hi : i < ρ.length := by simpa using (List.getElem?_eq_some_iff.mp h1).1
      rw [List.getElem?_set_self hi] at h1
      cases h1
      trivial
    · rw [List.getElem?_set_ne hj] at h1 h2
      exact e.at_ j s o h1 h2
  · have hij : i ≠ j := fun z => by
      subst z
      have hi : i < ρ.length := by simpa using (List.getElem?_eq_some_iff.mp h1).1
      rw [List.getElem?_set_self hi] at h1
      cases h1; cases o1
    have hik : i ≠ k := fun z => by
      subst z
      have hi : i < ρ.length := by simpa using (List.getElem?_eq_some_iff.mp h2).1
      rw [List.getElem?_set_self hi] at h2
      cases h2; cases o2
    rw [List.getElem?_set_ne hij] at h1 h3
    rw [List.getElem?_set_ne hik] at h2 h4
    exact e.apart j k s t a h1 h2 o1 o2 h3 h4
theorem ER.wipe {S : Sx} {κ : Cp} {I H : Hp} {ρ : Env'} {σ : St} (e : ER S κ I H ρ σ) : ∀ vs : List Nat, ER S κ I H (wipeD ρ vs) (L2.wipe σ vs)
  | [] => e
  | v :: vs => by unfold wipeD L2.wipe; exact (ER.wipe e vs).setNo
theorem wipe_at {σ : St} {j : Nat} : ∀ {vs : List Nat}, j ∈ vs → j < σ.length → (L2.wipe σ vs)[j]? = some none
  | v :: vs, h, hl => by
    unfold L2.wipe
    by_cases hv : v = j
    · subst hv
      rw [List.getElem?_set_self (by rw [wipe_length]; exact hl)]
    · rw [List.getElem?_set_ne hv]
      exact wipe_at ((List.mem_cons.mp h).resolve_left (Ne.symm hv)) hl
theorem wipe_eq {σ τ : St} {vs : List Nat} (hl : τ.length = σ.length) (h : ∀ j, j ∉ vs → τ[j]? = (L2.wipe σ vs)[j]?) : L2.wipe τ vs = L2.wipe σ vs := by
  apply List.ext_getElem?
  intro j
  by_cases hj : j ∈ vs
  · by_cases hlt : j < σ.length
    · rw [wipe_at hj hlt, wipe_at hj (by omega)]
    · rw [List.getElem?_eq_none (by rw [wipe_length]; omega), List.getElem?_eq_none (by rw [wipe_length]; omega)]
  · rw [wipe_out hj, h j hj]
namespace WP
/-- an error can't be -/
def noex {α : Type} (m : WP α) : WP α := ⟨fun b Q _ => m.run b Q fun _ _ => False, fun h hq _ => m.mono h hq fun _ _ z => z⟩
@[simp] theorem run_noex {α : Type} (m : WP α) (b Q E) : (noex m).run b Q E = m.run b Q (fun _ _ => False) := rfl
@[simp] theorem noex_pure {α : Type} (a : α) : noex (Pure.pure a : WP α) = Pure.pure a := rfl
@[simp] theorem noex_bad {α : Type} : noex (bad : WP α) = bad := rfl
@[simp] theorem noex_bind {α β : Type} (m : WP α) (f : α → WP β) : noex (m >>= f) = noex m >>= fun a => noex (f a) := rfl
@[simp] theorem noex_need {α : Type} (c : Prop) (m : WP α) : noex (need c m) = need c (noex m) := rfl
@[simp] theorem noex_ite {α : Type} (c : Prop) [Decidable c] (m n : WP α) : noex (if c then m else n) = if c then noex m else noex n := by split <;> rfl
end WP
abbrev W0 : WX := fun _ _ _ _ => False
def lcL (t : Tgt) (tt : BW) (te : EW) (ρ : Env') : List D → WP (List D)
  | [] => pure []
  | d :: l => match t.st d ρ with
    | none => WP.bad
    | some ρ1 => do
      let c ← WP.noex (tt ρ1)
      if c then do
        let y ← WP.noex (te ρ1)
        let r ← lcL t tt te ρ l
        pure (y :: r)
      else lcL t tt te ρ l
def eLc (ti : AW) (t : Tgt) (tt : BW) (te : EW) (vs : List Nat) : AW := fun ρ => do let xs ← ti ρ; lcL t tt te (wipeD ρ vs) xs
theorem Stp.updNew {S : Sx} {I H I' H' : Hp} {a : Addr} {o : HO} (x : Stp S I H I' H') (h : ¬ Nt H a) : Stp S I H I' (upd H' a o) := by
  refine ⟨x.ii, fun b u e p t => ?_, x.nn, fun b e => ?_⟩
  · rw [upd_ne (nt_ne h e t)]; exact x.hh b u e p t
  · obtain ⟨v, e3, e4⟩ := x.tt b e
    exact ⟨v, by rw [upd_ne fun z => h (by rw [← z]; exact e)]; exact e3, e4⟩
theorem SR.updOwn {S : Sx} {I H : Hp} {b : Nat} {a : Addr} {o u : HO} (s : SR S I H b) (hi : I a = none) (hp : a ≠ S.p.a) (hu : H a = some u) (n : Plain' u := by first | exact plain_lst | exact plain_ins | exact plain_own | exact plain_tup | exact plain_dK | exact plain_gdo) (m : Plain' o := by first | exact plain_lst | exact plain_ins | exact plain_own | exact plain_tup | exact plain_dK | exact plain_gdo) : SR S I (upd H a o) b := by
  obtain ⟨ca, q, e1, e2, ok⟩ := s.pen
  refine ⟨fun c u e => by rw [upd_ne (ne_of_none e hi)]; exact s.sub c u e, s.pn, ⟨ca, q, by rw [upd_ne (Ne.symm hp)]; exact e1, e2, ok⟩, tabs_upd s.tb (fun u' z => by rw [hu] at z; cases z; exact n), s.nt, fun c q e => ?_, s.ci⟩
  by_cases hc : c = a
  · subst hc; rw [upd_same] at e; cases e; exact absurd rfl (m.2 _ _)
  · rw [upd_ne hc] at e; exact s.cd c q e
def DTs (X : Cx) (κ : Cp) (W : WX) (ifs : List Expr) (t : BW) : Prop := PTs X ifs (tDT (Sx.of X κ) κ W t)
theorem PTs.imp {X : Cx} {e : List Expr} {t t' : TT} (h : PTs X e t) (i : ∀ σ H Q, t' σ H Q → t σ H Q) : PTs X e t' := ⟨fun pins s σ H Q I hq => h.run pins s σ H Q I (i σ H Q hq)⟩
theorem dts_nil {X : Cx} {κ : Cp} {W : WX} : DTs X κ W [] (fun _ => pure true) := PTs.imp pts_nil fun σ H Q ⟨I, ρ, b, sr, er, h⟩ => h I H .refl sr
theorem dts_one {X : Cx} {κ : Cp} {W : WX} {c : Expr} {t : BW} (h : DT X κ W c t) : DTs X κ W [c] t := pts_one h
section
variable {X : Cx} {κ : Cp} {W : WX}
/-- the reading of a comprehension -/
theorem tLc_of {ti : AW} {t : Tgt} {tt : BW} {te : EW} {vs : List Nat} (hv : ∀ j ∈ t.slots, j ∈ vs) {S : Sx} (σ : St) (H : Hp) (Q : VK) (h : tDL S κ W (eLc ti t tt te vs) σ H Q) :
    tLc (tDI S κ W ti) (t.tg S.K) (tDT S κ W0 tt) (tD S κ W0 te) vs σ H Q := by
  obtain ⟨I, ρ, b, sr, er, h⟩ := h
  refine ⟨I, ρ, b, sr, er, (ti ρ).mono h (fun xs b1 h1 J I1 H1 x1 s1 it L hL => ?_) fun _ _ z => z⟩
  have hLH : ¬ Nt H L := fun z => not_nt hL (x1.tt L z)
  have hLp : L ≠ S.p.a := sr.pne hLH
  refine ⟨fun i m H2 => ∃ I2 b2 acc vacc, m = xs.length - i ∧ i ≤ xs.length ∧ Same I1 I2 ∧ SR S I2 H2 b2 ∧ Stp S I H I2 H2 ∧ I2 L = none ∧ H2 L = some (.lst vacc) ∧ Rps S I2 acc vacc ∧ acc.length ≤ i ∧
      (lcL t tt te (wipeD ρ vs) (xs.drop i)).run b2 (fun r b' => KL S I H Q (acc ++ r) b') (KX S I H fun cls d H' => W cls d σ H'),
    ⟨xs.length, I1, b1, [], [], by simp, Nat.zero_le _, fun _ _ z => z, s1.newOwn hL, x1.updNew hLH, s1.sub.free hL, upd_same, .nil, Nat.le_refl _, h1⟩, ?_⟩
  rintro i m H2 ⟨I2, b2, acc, vacc, rfl, hi, i2, s2, x2, hIL, hHL, racc, hacc, h2⟩
  by_cases hlt : i < xs.length
  · rw [drop_cons' hlt] at h2
    refine .inr ⟨it.go i I2 H2 hlt i2 s2.sub, fun H' => ∃ I3 b3 acc3 vacc3, i + 1 ≤ xs.length ∧ Same I1 I3 ∧ SR S I3 H' b3 ∧ Stp S I H I3 H' ∧ I3 L = none ∧ H' L = some (.lst vacc3) ∧ Rps S I3 acc3 vacc3 ∧ acc3.length ≤ i + 1 ∧
        (lcL t tt te (wipeD ρ vs) (xs.drop (i + 1))).run b3 (fun r b' => KL S I H Q (acc3 ++ r) b') (KX S I H fun cls d H' => W cls d σ H'),
      fun H' ⟨I3, b3, acc3, vacc3, h3⟩ => ⟨xs.length - (i + 1), by omega, I3, b3, acc3, vacc3, rfl, h3⟩, fun v H3 y => ?_⟩
    obtain ⟨I3, x3, s3, r3⟩ := it.yld i _ I2 H2 b2 v H3 (List.getElem?_eq_getElem hlt) i2 s2 y
    unfold lcL at h2
    cases e : t.st xs[i] (wipeD ρ vs) with
    | none => rw [e] at h2; exact h2.elim
    | some ρ3 =>
      rw [e] at h2
      have er3 : ER S κ I3 H3 (wipeD ρ vs) (L2.wipe σ vs) := ((er.stp x2 ⟨_, sr⟩).stp x3 ⟨_, s2⟩).wipe vs
      refine Tgt.tg_ok (S := S) (κ := κ) (I := I3) s3.sub e r3 er3 fun σ4 er4 f4 => ?_
      have hl4 : σ4.length = σ.length := by
        have l1 := er4.len
        have l2 : ρ3.length = (wipeD ρ vs).length := by
          have q := er3.len
          exact (Tgt.st_len e)
        rw [← l1, l2, er3.len, wipe_length]
      refine ⟨wipe_eq hl4 fun j hj => f4 j fun z => hj (hv j z), I3, ρ3, b2, s3, er4, (tt ρ3).mono h2 (fun c b5 h5 I5 H5 x5 s5 => ?_) fun _ _ z => z.elim⟩
      have x25 := x3.trans x5
      have hL5 : H5 L = some (.lst vacc) := x25.hh L _ hHL hLp (fun z => z)
      have hIL5 : I5 L = none := x25.nn L (nt_lst hHL) hIL
      cases c with
      | false =>
        exact iteF ⟨I5, b5, acc, vacc, hlt, i2.trans x25.ii, s5, x2.trans x25, hIL5, hL5, racc.same x25.ii, Nat.le_succ_of_le hacc, h5⟩
      | true =>
        refine iteT ⟨I5, ρ3, b5, s5, er4.stp x5 ⟨_, s3⟩, (te ρ3).mono h5 (fun y0 b6 h6 v6 I6 H6 x6 s6 r6 => ?_) fun _ _ z => z.elim⟩
        have x26 := x25.trans x6
        have hL6 : H6 L = some (.lst vacc) := x26.hh L _ hHL hLp (fun z => z)
        have hIL6 : I6 L = none := x26.nn L (nt_lst hHL) hIL
        have hz := it.sz
        refine ⟨vacc, hL6, by rw [← racc.len]; omega, I6, b6, acc ++ [y0], vacc ++ [v6], hlt, i2.trans x26.ii, s6.updOwn hIL6 hLp hL6, (x2.trans x26).updNew hLH, hIL6, upd_same, (racc.same x26.ii).append (.cons r6 .nil), by simp; exact hacc, ?_⟩
        refine (lcL t tt te (wipeD ρ vs) _).mono h6 (fun r b' z => ?_) fun _ _ z => z
        have : acc ++ y0 :: r = acc ++ [y0] ++ r := by simp
        rw [← this]
        exact z
  · have hi' : i = xs.length := by omega
    subst hi'
    rw [List.drop_length] at h2
    refine .inl ⟨it.stop I2 H2 i2 s2.sub, ?_⟩
    have h3 : KL S I H Q (acc ++ []) b2 := h2
    rw [List.append_nil] at h3
    exact h3 L vacc I2 H2 x2 s2 hLH hIL hHL racc
end
end L2.NW
end
section
set_option Elab.async false
set_option autoImplicit false
set_option linter.all false
set_option maxRecDepth 100000
set_option maxHeartbeats 1000000
/-! NwH: comprehensions as expressions, built-ins, fields. -/
namespace L2.NW
open PySem PySem.Spec PyProof.Rows
/-! ### targets -/
section
variable {X : Cx} {e : Expr} {es : List Expr} {pos : Pos}
theorem pg_nm {i : Nat} {x : Str} (hN : X.N.Nodup) (hi : X.N[i]? = some x) (hx : Loc X.env.scope x) (hf : X.fn x = true ∨ X.env.scope.names.lookup x = some .local := by first | exact .inl rfl | exact .inr rfl | assumption) : PG X (.Name x pos) ((Tgt.nm i).tg X.K) := by
  rw [Tgt.tg]
  exact pg_name hN hi hx hf
theorem pgs_n : PGs X [] (Tgt.nil.gs X.K) := by
  rw [Tgt.gs]
  exact pgs_nil
theorem pgs_c {t r : Tgt} (h1 : PG X e (t.tg X.K)) (h2 : PGs X es (r.gs X.K)) (hs : (assignEach (e :: es) X.env).map (·.2) = assign e X.env :: (assignEach es X.env).map (·.2) := by rfl) : PGs X (e :: es) ((Tgt.cons t r).gs X.K) := by
  rw [Tgt.gs]
  exact pgs_cons h1 h2 hs
theorem pg_tp {t r : Tgt} {k : Nat} (hc : X.calm = true) (h : PGs X es ((Tgt.cons t r).gs X.K)) (hn : (assignEach es X.env).length = r.many + 1 := by rfl) (hst : (assignEach es X.env).findIdx? (·.1) = none := by rfl) : PG X (.Tuple es k pos) ((Tgt.cons t r).tg X.K) := by
  rw [Tgt.tg]
  rw [Tgt.gs] at h
  exact pg_tup hc h hn hst
end
/-! ### comprehensions -/
section
variable {X : Cx} {κ : Cp} {W : WX} {E : XK} {elt tg iter : Expr} {ifs : List Expr} {scope : Scope} {own : List (Str × Nat)} {pos spos py : Pos} {ti : AW} {t : Tgt} {tt : BW} {te : EW}
theorem dl_lc (hc : X.calm = true) (hN : X.N.Nodup) (hi : DI X κ W tg iter ti) (ok : BlkOk X.N X.env.scope scope own)
    (hg : ∀ (s : Shared) (H : Hp) (C : Addr) (cl : List (Str × Addr)) (fp : List Addr), PG (X.blk s H scope (compEnvC scope cl C X.env) fp) tg (t.tg X.K)) (ht : ∀ (s : Shared) (H : Hp) (C : Addr) (cl : List (Str × Addr)) (fp : List Addr), DTs (X.blk s H scope (compEnvC scope cl C X.env) fp) κ W0 ifs tt)
    (he : ∀ (s : Shared) (H : Hp) (C : Addr) (cl : List (Str × Addr)) (fp : List Addr), DE (X.blk s H scope (compEnvC scope cl C X.env) fp) κ W0 elt te) (hv : ∀ j ∈ t.slots, j ∈ own.map (·.2)) (hs : ∀ x, foldedSetIterable iter X.env x = pure x := by intro _; rfl) :
    DL X κ W (.ListComp elt [⟨tg, iter, ifs, 0⟩] scope pos) (eLc ti t tt te (own.map (·.2))) :=
  PE.imp (pe_lc (tt := tDT (Sx.of X κ) κ W0 tt) (te := tD (Sx.of X κ) κ W0 te) hc hN hi ok hg ht he hs) fun σ H Q h => tLc_of (S := Sx.of X κ) hv σ H Q h
/-- y = [..], y a local: kept as data -/
theorem ds_setLc {i : Nat} {y : Str} (hc : X.calm = true) (hN : X.N.Nodup) (hy : X.N[i]? = some y) (hyl : X.env.scope.names.lookup y = some .local)
    (hsw : swapsWith (.ListComp elt [⟨tg, iter, ifs, 0⟩] scope pos) (some (.Name y py)) spos.line X.env = pure true) (hi : DI X κ (wOf E) tg iter ti) (ok : BlkOk X.N X.env.scope scope own)
    (hg : ∀ (s : Shared) (H : Hp) (C : Addr) (cl : List (Str × Addr)) (fp : List Addr), PG (X.blk s H scope (compEnvC scope cl C X.env) fp) tg (t.tg X.K)) (ht : ∀ (s : Shared) (H : Hp) (C : Addr) (cl : List (Str × Addr)) (fp : List Addr), DTs (X.blk s H scope (compEnvC scope cl C X.env) fp) κ W0 ifs tt)
    (he : ∀ (s : Shared) (H : Hp) (C : Addr) (cl : List (Str × Addr)) (fp : List Addr), DE (X.blk s H scope (compEnvC scope cl C X.env) fp) κ W0 elt te) (hv : ∀ j ∈ t.slots, j ∈ own.map (·.2)) (hs : ∀ x, foldedSetIterable iter X.env x = pure x := by intro _; rfl) :
    DS X κ E (.Assign [.Name y py] (.ListComp elt [⟨tg, iter, ifs, 0⟩] scope pos) spos) (sSet i fun ρ => do let l ← eLc ti t tt te (own.map (·.2)) ρ; pure (.lst l)) :=
  PS.imp (ps_setLc (tt := tDT (Sx.of X κ) κ W0 tt) (te := tD (Sx.of X κ) κ W0 te) hc hN hy hyl hsw hi ok hg ht he hs) fun D σ H ⟨I, ρ, b, w, h⟩ => tLc_of (S := Sx.of X κ) hv σ H _ ⟨I, ρ, b, w.sr, w.er, WP.mono _ h (fun l b' h' a vs I' H' x s ha hi hl r => by
    have w' := w.stp x s
    refine h' _ (upd I' a (.lst vs)) H' ⟨s.freeze hl hi (w.sr.pne ha), ?_, ?_⟩ ?_
    · refine ER.setVal ?_ (by simp only [Rp]; exact ⟨a, vs, rfl, upd_same, r.same (same_upd hi)⟩)
      exact w.er.stp (x.freeze ha hi) ⟨_, w.sr⟩
    · exact w.st.trans (x.freeze ha hi)
    · exact x.ii.trans (same_upd hi)) fun _ _ z => z.kx w.st⟩
end
end L2.NW
end
section
set_option Elab.async false
set_option autoImplicit false
set_option linter.all false
set_option maxRecDepth 100000
set_option maxHeartbeats 1000000
/-! NwK: built-ins, isinstance, slices, fields. -/
namespace L2.NW
open PySem PySem.Spec PyProof.Rows
/-! ### a built-in of a new list -/
section
variable {X : Cx} {κ : Cp} {W : WX} {e : Expr} {pos pn : Pos} {x : Str} {id T : String} {r : List V → Hp → VK → Prop} {m : List D → WP D} {ts : AW}
/-- what a built-in does with a new list -/
def ClL (S : Sx) (r : List V → Hp → VK → Prop) (m : List D → WP D) : Prop := ∀ I H b a l vs Q E, SR S I H b → I a = none → H a = some (.lst vs) → Rps S I l vs → (m l).run b (KD S I H Q) E → r [.ref a] H Q
theorem tDLC {S : Sx} (o : ClL S r m) (σ : St) (H : Hp) (Q : VK) (h : tD S κ W (fun ρ => do let l ← ts ρ; m l) σ H Q) : tCB r (tCons (tDL S κ W ts) tNil) σ H Q := by
  obtain ⟨I, ρ, b, sr, er, h⟩ := h
  refine ⟨I, ρ, b, sr, er, (ts ρ).mono h (fun l b' h' a vs I' H' x s ha hi hl r => ?_) fun _ _ z => z⟩
  exact o I' H' b' a l vs Q _ s hi hl r ((m l).mono h' (fun _ _ z => KD.mono x z) fun _ _ z => z)
theorem de_callBL (hc : CallR X (.builtin id) r) (o : ClL (Sx.of X κ) r m) (hg : Gl X x) (hm : X.mg x = none) (hv : bootBuiltins x = some (.builtin id)) (ha : DL X κ W e ts) (hn : x ≠ "__name__" := by decide) (hdb : (x == ("__debug__" : Str)) = false := by decide)
    (he : starEach (e :: []) X.env = (false, eval e X.env) :: starEach [] X.env := by rfl) (hpl : (backTo pos (starEach [] X.env)).any (·.1) = false := by rfl) : DE X κ W (.Call (.Name x pn) [e] [] pos) (fun ρ => do let l ← ts ρ; m l) :=
  PE.imp (pe_callB hc hg hm hv (pa_cons ha pa_nil he) hn hdb he hpl) (tDLC o)
theorem de_callTyL (hc : CallR X (.type T) r) (o : ClL (Sx.of X κ) r m) (hg : Gl X x) (hm : X.mg x = none) (hv : bootBuiltins x = some (.type T)) (ha : DL X κ W e ts) (hn : x ≠ "__name__" := by decide) (hdb : (x == ("__debug__" : Str)) = false := by decide)
    (he : starEach (e :: []) X.env = (false, eval e X.env) :: starEach [] X.env := by rfl) (hpl : (backTo pos (starEach [] X.env)).any (·.1) = false := by rfl) : DE X κ W (.Call (.Name x pn) [e] [] pos) (fun ρ => do let l ← ts ρ; m l) :=
  PE.imp (pe_callTy hc hg hm hv (pa_cons ha pa_nil he) hn hdb he hpl) (tDLC o)
end
def asBls : List D → Option (List Bool)
  | [] => some []
  | .bl b :: l => (asBls l).map (b :: ·)
  | _ => none
def asInts : List D → Option (List Int)
  | [] => some []
  | .int b :: l => (asInts l).map (b :: ·)
  | _ => none
theorem asBls_rps {S : Sx} {I : Hp} : ∀ {l : List D} {vs : List V} {bs : List Bool}, Rps S I l vs → asBls l = some bs → vs = bs.map V.bl
  | [], vs, bs, r, h => by simp only [Rps] at r; simp only [asBls, Option.some.injEq] at h; subst h; subst r; rfl
  | d :: l, vs, bs, r, h => by
    cases d <;> try (simp [asBls] at h; done)
    simp only [asBls] at h
    cases e : asBls l with
    | none => rw [e] at h; cases h
    | some cs =>
      rw [e] at h
      cases h
      simp only [Rps, Rp] at r
      obtain ⟨v, ws, rfl, rfl, r⟩ := r
      simp [asBls_rps r e]
theorem asInts_rps {S : Sx} {I : Hp} : ∀ {l : List D} {vs : List V} {bs : List Int}, Rps S I l vs → asInts l = some bs → vs = bs.map V.int
  | [], vs, bs, r, h => by simp only [Rps] at r; simp only [asInts, Option.some.injEq] at h; subst h; subst r; rfl
  | d :: l, vs, bs, r, h => by
    cases d <;> try (simp [asInts] at h; done)
    simp only [asInts] at h
    cases e : asInts l with
    | none => rw [e] at h; cases h
    | some cs =>
      rw [e] at h
      cases h
      simp only [Rps, Rp] at r
      obtain ⟨v, ws, rfl, rfl, r⟩ := r
      simp [asInts_rps r e]
@[simp] theorem asBls_map {α : Type} (f : α → Bool) (l : List α) : asBls (l.map fun a => D.bl (f a)) = some (l.map f) := by
  induction l with
  | nil => rfl
  | cons a l ih => simp [asBls, ih]
@[simp] theorem asInts_map {α : Type} (f : α → Int) (l : List α) : asInts (l.map fun a => D.int (f a)) = some (l.map f) := by
  induction l with
  | nil => rfl
  | cons a l ih => simp [asInts, ih]
def allD (l : List D) : WP D := match asBls l with
  | some bs => pure (.bl (bs.all id))
  | none => WP.bad
def anyD (l : List D) : WP D := match asBls l with
  | some bs => pure (.bl (bs.any id))
  | none => WP.bad
def sumD (l : List D) : WP D := match asInts l with
  | some bs => pure (.int bs.sum)
  | none => WP.bad
def lenL (l : List D) : WP D := pure (.int (l.length : Nat))
def tupL (l : List D) : WP D := pure (.tup l)
section
variable {S : Sx}
theorem cl_allL : ClL S (rAll S.K) allD := by
  intro I H b a l vs Q E sr hi hl r h
  unfold allD at h
  cases e : asBls l with
  | none => rw [e] at h; exact h.elim
  | some bs => rw [e] at h; exact ⟨a, bs, rfl, by rw [← asBls_rps r e]; exact SqL.of hl, h _ I H .refl sr (by simp [Rp])⟩
theorem cl_anyL : ClL S (rAny S.K) anyD := by
  intro I H b a l vs Q E sr hi hl r h
  unfold anyD at h
  cases e : asBls l with
  | none => rw [e] at h; exact h.elim
  | some bs => rw [e] at h; exact ⟨a, bs, rfl, by rw [← asBls_rps r e]; exact SqL.of hl, h _ I H .refl sr (by simp [Rp])⟩
theorem cl_sumL : ClL S (rSum S.K) sumD := by
  intro I H b a l vs Q E sr hi hl r h
  unfold sumD at h
  cases e : asInts l with
  | none => rw [e] at h; exact h.elim
  | some bs => rw [e] at h; exact ⟨a, bs, rfl, by rw [← asInts_rps r e]; exact SqL.of hl, h _ I H .refl sr (by simp [Rp])⟩
def rLen (K : PySem.W.Frag) : List V → Hp → VK → Prop := fun xs H Q => ∃ p ys, xs = [.ref p] ∧ (SqL K H p ys ∨ SqT K H p ys) ∧ Q (.int ys.length) H
theorem cl_lenL : ClL S (rLen S.K) lenL := by
  intro I H b a l vs Q E sr hi hl r h
  exact ⟨a, vs, rfl, .inl (SqL.of hl), by rw [← r.len]; exact h _ I H .refl sr (by simp [Rp])⟩
def rTupOf (K : PySem.W.Frag) : List V → Hp → VK → Prop := fun xs H Q => ∃ p ys, xs = [.ref p] ∧ ((SqL K H p ys ∧ ∀ l, H l = none → Q (.ref l) (upd H l (.tup ys))) ∨ (SqT K H p ys ∧ Q (.ref p) H))
theorem cl_tupL : ClL S (rTupOf S.K) tupL := by
  intro I H b a l vs Q E sr hi hl r h
  exact ⟨a, vs, rfl, .inl ⟨SqL.of hl, fun q hq => h _ _ _ (.new sr.sub hq) (sr.new hq) (.tup sr.sub hq r)⟩⟩

/-! ### .. of data -/
def tupD : List D → WP D
  | [.tup l] => pure (.tup l)
  | [.lst l] => pure (.tup l)
  | _ => WP.bad
def lenD : List D → WP D
  | [.tup l] => pure (.int (l.length : Nat))
  | [.lst l] => pure (.int (l.length : Nat))
  | _ => WP.bad
def intD : List D → WP D
  | [.int i] => pure (.int i)
  | [.bl k] => pure (.int (if k then 1 else 0))
  | _ => WP.bad
theorem cl_tup : Cl S (rTupOf S.K) tupD := by
  intro I H b ds v Q E sr r h
  unfold tupD at h
  split at h
  · obtain ⟨w, rfl, hw⟩ := rps1 r
    simp only [Rp] at hw
    obtain ⟨a, vs, rfl, ha, hr⟩ := hw
    exact ⟨a, vs, rfl, .inr ⟨SqT_same sr.sub ha, h _ I H .refl sr (by simp only [Rp]; exact ⟨a, vs, rfl, ha, hr⟩)⟩⟩
  · obtain ⟨w, rfl, hw⟩ := rps1 r
    simp only [Rp] at hw
    obtain ⟨a, vs, rfl, ha, hr⟩ := hw
    exact ⟨a, vs, rfl, .inl ⟨SqL.of (sr.sub _ _ ha), fun q hq => h _ _ _ (.new sr.sub hq) (sr.new hq) (.tup sr.sub hq hr)⟩⟩
  · exact h.elim
theorem cl_len : Cl S (rLen S.K) lenD := by
  intro I H b ds v Q E sr r h
  unfold lenD at h
  split at h
  · obtain ⟨w, rfl, hw⟩ := rps1 r
    simp only [Rp] at hw
    obtain ⟨a, vs, rfl, ha, hr⟩ := hw
    exact ⟨a, vs, rfl, .inr (SqT_same sr.sub ha), by rw [← hr.len]; exact h _ I H .refl sr (by simp [Rp])⟩
  · obtain ⟨w, rfl, hw⟩ := rps1 r
    simp only [Rp] at hw
    obtain ⟨a, vs, rfl, ha, hr⟩ := hw
    exact ⟨a, vs, rfl, .inl (SqL.of (sr.sub _ _ ha)), by rw [← hr.len]; exact h _ I H .refl sr (by simp [Rp])⟩
  · exact h.elim
def rInt1 : List V → Hp → VK → Prop := fun xs H Q => (∃ i, xs = [.int i] ∧ Q (.int i) H) ∨ ∃ k, xs = [.bl k] ∧ Q (.int (if k then 1 else 0)) H
theorem cl_int : Cl S rInt1 intD := by
  intro I H b ds v Q E sr r h
  unfold intD at h
  split at h
  · obtain ⟨w, rfl, hw⟩ := rps1 r
    simp only [Rp] at hw
    subst hw
    exact .inl ⟨_, rfl, h _ I H .refl sr (by simp [Rp])⟩
  · obtain ⟨w, rfl, hw⟩ := rps1 r
    simp only [Rp] at hw
    subst hw
    exact .inr ⟨_, rfl, h _ I H .refl sr (by simp [Rp])⟩
  · exact h.elim
/-- list(x): a new list -/
def listD : List D → WP (List D)
  | [.tup l] => pure l
  | [.lst l] => pure l
  | _ => WP.bad
end
section
variable {X : Cx} {κ : Cp} {W : WX} {e : Expr} {pos pn : Pos} {ts : AW}
theorem de_all (hc : X.calm = true) (hg : Gl X "all") (hm : X.mg "all" = none) (ha : DL X κ W e ts) (he : starEach (e :: []) X.env = (false, eval e X.env) :: starEach [] X.env := by rfl) (hpl : (backTo pos (starEach [] X.env)).any (·.1) = false := by rfl) :
    DE X κ W (.Call (.Name "all" pn) [e] [] pos) (fun ρ => do let l ← ts ρ; allD l) := de_callBL (cr_all hc) cl_allL hg hm (by decide +kernel) ha (by decide) (by decide) he hpl
theorem de_any (hc : X.calm = true) (hg : Gl X "any") (hm : X.mg "any" = none) (ha : DL X κ W e ts) (he : starEach (e :: []) X.env = (false, eval e X.env) :: starEach [] X.env := by rfl) (hpl : (backTo pos (starEach [] X.env)).any (·.1) = false := by rfl) :
    DE X κ W (.Call (.Name "any" pn) [e] [] pos) (fun ρ => do let l ← ts ρ; anyD l) := de_callBL (cr_any hc) cl_anyL hg hm (by decide +kernel) ha (by decide) (by decide) he hpl
theorem de_sum (hc : X.calm = true) (hg : Gl X "sum") (hm : X.mg "sum" = none) (ha : DL X κ W e ts) (he : starEach (e :: []) X.env = (false, eval e X.env) :: starEach [] X.env := by rfl) (hpl : (backTo pos (starEach [] X.env)).any (·.1) = false := by rfl) :
    DE X κ W (.Call (.Name "sum" pn) [e] [] pos) (fun ρ => do let l ← ts ρ; sumD l) := de_callBL (cr_sum hc) cl_sumL hg hm (by decide +kernel) ha (by decide) (by decide) he hpl
theorem de_lenL (hg : Gl X "len") (hm : X.mg "len" = none) (ha : DL X κ W e ts) (he : starEach (e :: []) X.env = (false, eval e X.env) :: starEach [] X.env := by rfl) (hpl : (backTo pos (starEach [] X.env)).any (·.1) = false := by rfl) :
    DE X κ W (.Call (.Name "len" pn) [e] [] pos) (fun ρ => do let l ← ts ρ; lenL l) := de_callBL call_len_seq cl_lenL hg hm (by decide +kernel) ha (by decide) (by decide) he hpl
theorem de_tupL (hg : Gl X "tuple") (hm : X.mg "tuple" = none) (ha : DL X κ W e ts) (he : starEach (e :: []) X.env = (false, eval e X.env) :: starEach [] X.env := by rfl) (hpl : (backTo pos (starEach [] X.env)).any (·.1) = false := by rfl) :
    DE X κ W (.Call (.Name "tuple" pn) [e] [] pos) (fun ρ => do let l ← ts ρ; tupL l) := de_callTyL call_tuple_of cl_tupL hg hm (by decide +kernel) ha (by decide) (by decide) he hpl
theorem de_len (hg : Gl X "len") (hm : X.mg "len" = none) (ha : DA X κ W [e] ts) (he : starEach (e :: []) X.env = (false, eval e X.env) :: starEach [] X.env := by rfl) (hpl : (backTo pos (starEach [] X.env)).any (·.1) = false := by rfl) :
    DE X κ W (.Call (.Name "len" pn) [e] [] pos) (fun ρ => do let l ← ts ρ; lenD l) := de_callB call_len_seq cl_len hg hm (by decide +kernel) ha (by decide) (by decide) he hpl
theorem de_tuple (hg : Gl X "tuple") (hm : X.mg "tuple" = none) (ha : DA X κ W [e] ts) (he : starEach (e :: []) X.env = (false, eval e X.env) :: starEach [] X.env := by rfl) (hpl : (backTo pos (starEach [] X.env)).any (·.1) = false := by rfl) :
    DE X κ W (.Call (.Name "tuple" pn) [e] [] pos) (fun ρ => do let l ← ts ρ; tupD l) := de_callTy call_tuple_of cl_tup hg hm (by decide +kernel) ha (by decide) (by decide) he hpl
theorem de_intc (hg : Gl X "int") (hm : X.mg "int" = none) (ha : DA X κ W [e] ts) (he : starEach (e :: []) X.env = (false, eval e X.env) :: starEach [] X.env := by rfl) (hpl : (backTo pos (starEach [] X.env)).any (·.1) = false := by rfl) :
    DE X κ W (.Call (.Name "int" pn) [e] [] pos) (fun ρ => do let l ← ts ρ; intD l) := de_callTy call_int1 cl_int hg hm (by decide +kernel) ha (by decide) (by decide) he hpl
theorem dl_list (hg : Gl X "list") (hm : X.mg "list" = none) (ha : DA X κ W [e] ts) (he : starEach (e :: []) X.env = (false, eval e X.env) :: starEach [] X.env := by rfl) (hpl : (backTo pos (starEach [] X.env)).any (·.1) = false := by rfl) :
    DL X κ W (.Call (.Name "list" pn) [e] [] pos) (fun ρ => do let l ← ts ρ; listD l) :=
  PE.imp (pe_callTy call_list_of hg hm (by decide +kernel) ha (by decide) (by decide) he hpl) fun σ H Q ⟨I, ρ, b, sr, er, h⟩ => tDA_bind sr er h fun d b1 v I1 H1 x1 s1 er1 r1 h1 => by
    have go : ∀ {q : Addr} {vs : List V} {l : List D}, Rps (Sx.of X κ) I1 l vs → H1 q = none → KL (Sx.of X κ) I H Q l b1 → Q (.ref q) (upd H1 q (.lst vs)) := fun {q vs l} hr hq k =>
      k q vs I1 (upd H1 q (.lst vs)) (x1.trans (.newOwn hq)) (s1.newOwn hq) (fun z => not_nt hq (x1.tt q z)) (s1.sub.free hq) upd_same hr
    unfold listD at h1
    split at h1
    · obtain ⟨w, rfl, hw⟩ := rps1 r1
      simp only [Rp] at hw
      obtain ⟨a, vs, rfl, ha, hr⟩ := hw
      exact ⟨a, vs, rfl, .inr (SqT_same s1.sub ha), fun q hq => go hr hq h1⟩
    · obtain ⟨w, rfl, hw⟩ := rps1 r1
      simp only [Rp] at hw
      obtain ⟨a, vs, rfl, ha, hr⟩ := hw
      exact ⟨a, vs, rfl, .inl (SqL.of (s1.sub _ _ ha)), fun q hq => go hr hq h1⟩
    · exact h1.elim
end
end L2.NW
end
section
set_option Elab.async false
set_option autoImplicit false
set_option linter.all false
set_option maxRecDepth 100000
set_option maxHeartbeats 1000000
/-! NwL: isinstance, slices, fields, instances. -/
namespace L2.NW
open PySem PySem.Spec PyProof.Rows
/-! ### isinstance -/
def tyOf : D → Option String
  | .non => some "NoneType"
  | .bl _ => some "bool"
  | .int _ => some "int"
  | .str _ => some "str"
  | .tup _ => some "tuple"
  | .lst _ => some "list"
  | .dic _ => some "dict"
  | _ => none
def isTs (T t : String) : Bool := t == T || (T == "int" && t == "bool")
def isiD (Ts : List String) (d : D) : WP D := match tyOf d with
  | some t => pure (.bl (Ts.any fun T => isTs T t))
  | none => WP.bad
def tys : List String := ["NoneType", "bool", "int", "str", "tuple", "list", "dict"]
def tyOk (T : String) : Bool := tys.all fun t => decide (kitB t T = some (isTs T t))
theorem tyOf_mem {d : D} {t : String} (h : tyOf d = some t) : t ∈ tys := by
  cases d <;> simp [tyOf] at h <;> subst h <;> simp [tys]
theorem kit_of' {T t : String} (h : tyOk T = true) (ht : t ∈ tys) : kitB t T = some (isTs T t) := by
  unfold tyOk at h
  rw [List.all_eq_true] at h
  exact of_decide_eq_true (h t ht)
theorem tyx {S : Sx} {I H : Hp} {d : D} {v : V} {t : String} (sub : Same I H) (r : Rp S I d v) (h : tyOf d = some t) : TyX S.K H v (.type t) := by
  cases d with
  | non => simp only [tyOf, Option.some.injEq] at h; simp only [Rp] at r; subst h; subst r; exact .base .non
  | bl b => simp only [tyOf, Option.some.injEq] at h; simp only [Rp] at r; subst h; subst r; exact .base (.bl b)
  | int b => simp only [tyOf, Option.some.injEq] at h; simp only [Rp] at r; subst h; subst r; exact .base (.int b)
  | str b => simp only [tyOf, Option.some.injEq] at h; simp only [Rp] at r; subst h; subst r; exact .base (.str b)
  | tup l =>
    simp only [tyOf, Option.some.injEq] at h
    simp only [Rp] at r
    subst h
    obtain ⟨a, vs, rfl, ha, _⟩ := r
    rcases SqT_same sub ha with (q | ⟨o, q⟩) | ⟨o, its, n, q1, q2, _⟩
    · exact .base (.tup q)
    · exact .fTuple q
    · exact .kTuple q1 q2
  | lst l =>
    simp only [tyOf, Option.some.injEq] at h
    simp only [Rp] at r
    subst h
    obtain ⟨a, vs, rfl, ha, _⟩ := r
    exact .base (.lst (sub _ _ ha))
  | ins _ _ _ => simp [tyOf] at h
  | pen => simp [tyOf] at h
  | raw _ => simp [tyOf] at h
  | fn _ => simp [tyOf] at h
  | exc _ _ _ => simp [tyOf] at h
  | dct _ _ => simp [tyOf] at h
  | dic a =>
    simp only [tyOf, Option.some.injEq] at h
    simp only [Rp] at r
    subst h
    obtain ⟨rfl, kvs, ha⟩ := r
    exact .base (.dK (sub _ _ ha))
section
variable {X : Cx} {κ : Cp} {W : WX} {a e1' e2' : Expr} {pos pn p1 p2 p3 : Pos} {ta : EW} {T T1 T2 : String} {t1 t2 : Str}
theorem de_isi (hg : Gl X "isinstance") (hm : X.mg "isinstance" = none) (ha : DE X κ W a ta) (hb : PE X e1' (tC (.ty T))) (hT : tyOk T = true)
    (he : starEach (a :: [e1']) X.env = (false, eval a X.env) :: starEach [e1'] X.env := by rfl) (he2 : starEach (e1' :: []) X.env = (false, eval e1' X.env) :: starEach [] X.env := by rfl) (hpl : (backTo pos (starEach [e1'] X.env)).any (·.1) = false := by rfl) :
    DE X κ W (.Call (.Name "isinstance" pn) [a, e1'] [] pos) (e1 (isiD [T]) ta) :=
  PE.imp (pe_callB call_isi hg hm PyProof.Rows.boot_isinstance (pa_cons ha (pa_cons hb pa_nil he2) he) (by decide) (by decide) he hpl) fun σ H Q ⟨I, ρ, b, sr, er, h⟩ => tD_bind sr er h fun d b1 v I1 H1 x1 s1 er1 r1 h1 => by
    unfold isiD at h1
    cases e : tyOf d with
    | none => rw [e] at h1; exact h1.elim
    | some t =>
      rw [e] at h1
      exact ⟨v, .ty T, .type t, .type T, isTs T t, rfl, .ty T, tyx s1.sub r1 e, kit_ty (kit_of' hT (tyOf_mem e)), h1 _ I1 H1 x1 s1 (by simp [Rp])⟩
theorem de_isi2 (hg : Gl X "isinstance") (hm : X.mg "isinstance" = none) (ha : DE X κ W a ta) (hb : PE X e1' (tC (.ty T1))) (hb2 : PE X e2' (tC (.ty T2))) (hT1 : tyOk T1 = true) (hT2 : tyOk T2 = true) {k : Nat}
    (he : starEach (a :: [.Tuple [e1', e2'] k p3]) X.env = (false, eval a X.env) :: starEach [.Tuple [e1', e2'] k p3] X.env := by rfl) (he2 : starEach (Expr.Tuple [e1', e2'] k p3 :: []) X.env = (false, eval (.Tuple [e1', e2'] k p3) X.env) :: starEach [] X.env := by rfl)
    (he3 : starEach (e1' :: [e2']) X.env = (false, eval e1' X.env) :: starEach [e2'] X.env := by rfl) (he4 : starEach (e2' :: []) X.env = (false, eval e2' X.env) :: starEach [] X.env := by rfl) (hpl : (backTo pos (starEach [.Tuple [e1', e2'] k p3] X.env)).any (·.1) = false := by rfl) :
    DE X κ W (.Call (.Name "isinstance" pn) [a, .Tuple [e1', e2'] k p3] [] pos) (e1 (isiD [T1, T2]) ta) :=
  PE.imp (pe_callB call_isiT hg hm PyProof.Rows.boot_isinstance (pa_cons ha (pa_cons (pe_tup (pa_cons hb (pa_cons hb2 pa_nil he4) he3)) pa_nil he2) he) (by decide) (by decide) he hpl) fun σ H Q ⟨I, ρ, b, sr, er, h⟩ => tD_bind sr er h fun d b1 v I1 H1 x1 s1 er1 r1 h1 => by
    unfold isiD at h1
    cases e : tyOf d with
    | none => rw [e] at h1; exact h1.elim
    | some t =>
      rw [e] at h1
      refine ⟨by show 2 ≤ sizeLine; decide, fun q hq => ?_⟩
      have k1 := kit_ty (K := X.K) (kit_of' hT1 (tyOf_mem e))
      have k2 := kit_ty (K := X.K) (kit_of' hT2 (tyOf_mem e))
      refine ⟨v, q, _, .type t, [.type T1, .type T2], isTs T1 t || isTs T2 t, rfl, upd_same, .cons (.ty _) (.cons (.ty _) .nil), ?_, ?_, ?_⟩
      · have x2 := Stp.newOwn (S := Sx.of X κ) (I := I1) (o := .tup [.ty T1, .ty T2]) hq
        exact tyx (s1.newOwn hq).sub r1 e
      · refine kitAny_cons k1 (fun z => ?_) fun z => by rw [z]; rfl
        rw [z, Bool.false_or]
        exact kitAny_cons k2 (fun z2 => by rw [z2]; exact kitAny_nil) fun z2 => z2
      · have h2 := h1 (.bl (isTs T1 t || isTs T2 t)) I1 (upd H1 q (.tup [.ty T1, .ty T2])) (x1.trans (.newOwn hq)) (s1.newOwn hq) (by simp [Rp])
        exact h2
end
/-! ### slices -/
def cutD (l : List D) (lo hi : Option Int) : List D := (l.drop (HT.sIx l.length 0 lo)).take (HT.sIx l.length l.length hi - HT.sIx l.length 0 lo)
def slD (d : D) (lo hi : Option Int) : WP D := match d with
  | .tup l => pure (.tup (cutD l lo hi))
  | .lst l => pure (.lst (cutD l lo hi))
  | _ => WP.bad
theorem Rps.take {S : Sx} {I : Hp} : ∀ {l : List D} {vs : List V} (n : Nat), Rps S I l vs → Rps S I (l.take n) (vs.take n)
  | _, _, 0, _ => by simp only [List.take_zero]; exact .nil
  | [], vs, n + 1, h => by simp only [Rps] at h; subst h; simp [Rps]
  | d :: l, vs, n + 1, h => by
    simp only [Rps] at h
    obtain ⟨v, ws, rfl, h1, h2⟩ := h
    exact .cons h1 (Rps.take n h2)
theorem Rps.drop {S : Sx} {I : Hp} : ∀ {l : List D} {vs : List V} (n : Nat), Rps S I l vs → Rps S I (l.drop n) (vs.drop n)
  | _, _, 0, h => h
  | [], vs, n + 1, h => by simp only [Rps] at h; subst h; simp [Rps]
  | d :: l, vs, n + 1, h => by
    simp only [Rps] at h
    obtain ⟨v, ws, rfl, h1, h2⟩ := h
    exact Rps.drop n h2
/-- one end of a slice -/
abbrev OW := Env' → WP (Option Int)
theorem PO.imp {X : Cx} {e : Option Expr} {t t' : TO} (h : PO X e t) (i : ∀ σ H Q, t' σ H Q → t σ H Q) : PO X e t' := ⟨fun pins s σ H Q I hq => h.run pins s σ H Q I (i σ H Q hq)⟩
section
variable {X : Cx} {κ : Cp} {W : WX} {a e : Expr} {lo hi : Option Expr} {pos p2 : Pos} {ta te : EW} {tl th : OW}
def oInt (d : D) : WP (Option Int) := match d with
  | .int i => pure (some i)
  | _ => WP.bad
def eSl (ta : EW) (tl th : OW) : EW := fun ρ => do let d ← ta ρ; let l ← tl ρ; let h ← th ρ; slD d l h
end
/-! ### fields -/
/-- the classes cs, and f is the name of a field of their instances -/
def FldF (K : PySem.W.Frag) (mg : Str → Option Value) (cs : List Str) (f : Str) : Prop := ∀ c ∈ cs, ∀ C, mg c = some (.ref C) → Cls K C ∧ NoAttr K C f
def fldD (cs : List Str) (f : Str) (d : D) : WP D := match d with
  | .ins c ns l => WP.need (c ∈ cs) (match (ns.zip l).lookup f with
    | some d => pure d
    | none => WP.bad)
  | _ => WP.bad
theorem Rps.lookup {S : Sx} {I : Hp} {f : Str} {d : D} : ∀ {ns : List Str} {l : List D} {vs : List V}, Rps S I l vs → (ns.zip l).lookup f = some d → ∃ v, (ns.zip vs).lookup f = some v ∧ Rp S I d v
  | [], l, vs, _, h => by simp at h
  | n :: ns, [], vs, _, h => by simp at h
  | n :: ns, x :: l, vs, r, h => by
    simp only [Rps] at r
    obtain ⟨v, ws, rfl, h1, h2⟩ := r
    simp only [List.zip_cons_cons, List.lookup_cons] at h ⊢
    by_cases e : f == n
    · rw [e] at h ⊢
      cases h
      exact ⟨v, rfl, h1⟩
    · have e' : (f == n) = false := by simpa using e
      rw [e'] at h ⊢
      exact Rps.lookup h2 h
section
variable {X : Cx} {κ : Cp} {W : WX} {a : Expr} {pos : Pos} {ta : EW} {cs : List Str} {f : Str}
theorem de_fld (hF : FldF X.K X.mg cs f) (ha : DE X κ W a ta) (hb : attributeBase a f X.env (eval a X.env) = eval a X.env := by rfl) : DE X κ W (.Attribute a f pos) (e1 (fldD cs f) ta) :=
  PE.imp (pe_fld ha hb) fun σ H Q ⟨I, ρ, b, sr, er, h⟩ => tD_bind sr er h fun d b1 v I1 H1 x1 s1 er1 r1 h1 => by
    cases d <;> first | exact h1.elim | skip
    rename_i c ns l
    obtain ⟨hc, h1⟩ := h1
    simp only [Rp] at r1
    obtain ⟨p, C, dx, vs, rfl, hC, hp, hl, hr⟩ := r1
    cases e : (ns.zip l).lookup f with
    | none => rw [e] at h1; exact h1.elim
    | some y =>
      rw [e] at h1
      obtain ⟨w, q1, q2⟩ := hr.lookup e
      obtain ⟨k1, k2⟩ := hF c hc C hC
      exact ⟨p, C, dx, _, w, rfl, s1.sub _ _ hp, k1, k2, q1, h1 w I1 H1 x1 s1 q2⟩
end
end L2.NW
end
section
set_option Elab.async false
set_option autoImplicit false
set_option linter.all false
set_option maxRecDepth 100000
set_option maxHeartbeats 1000000
/-! NwM: own lists, instances. -/
namespace L2.NW
open PySem PySem.Spec PyProof.Rows
/-! ### a list of a name's own -/
theorem WOk.h0 {S : Sx} {κ : Cp} {I H : Hp} {b : Nat} {ρ : Env'} {σ : St} {a : Addr} (w : WOk S κ I H b ρ σ) (h : ¬ Nt H a) : ¬ Nt κ.h0 a := fun z => h (w.st.tt a z)
/-- slot i holds a thing of our own at a, which stands in no other slot -/
theorem ER.setOwn {S : Sx} {κ : Cp} {I H : Hp} {ρ : Env'} {σ : St} {i : Nat} {s : Sl} {a : Addr} (e : ER S κ I H ρ σ) (r : SlR S κ I H s (some (.ref a)))
    (ap : ∀ (j : Nat) (t : Sl), j ≠ i → ρ[j]? = some t → t.isOwn = true → σ[j]? ≠ some (some (.ref a))) : ER S κ I H (ρ.set i s) (σ.set i (some (.ref a))) := by
  have at0 : ∀ {j : Nat} {t : Sl}, (ρ.set i s)[j]? = some t → i = j → i < ρ.length := fun {j t} h z => by
    subst z
    simpa using (List.getElem?_eq_some_iff.mp h).1
  refine ⟨by simp [e.len], fun j t o h1 h2 => ?_, fun j k t u c h1 h2 o1 o2 h3 h4 => ?_⟩
  · by_cases hj : i = j
    · have hi := at0 h1 hj
      subst hj
      rw [List.getElem?_set_self hi] at h1
      rw [List.getElem?_set_self (e.len ▸ hi)] at h2
      cases h1; cases h2
      exact r
    · rw [List.getElem?_set_ne hj] at h1 h2
      exact e.at_ j t o h1 h2
  · by_cases hj : i = j
    · by_cases hk : i = k
      · exact hj.symm.trans hk
      · have hi := at0 h1 hj
        subst hj
        rw [List.getElem?_set_self (e.len ▸ hi)] at h3
        cases h3
        rw [List.getElem?_set_ne hk] at h2 h4
        exact absurd h4 (ap k u (Ne.symm hk) h2 o2)
    · by_cases hk : i = k
      · have hi := at0 h2 hk
        subst hk
        rw [List.getElem?_set_self (e.len ▸ hi)] at h4
        cases h4
        rw [List.getElem?_set_ne hj] at h1 h3
        exact absurd h3 (ap j t (Ne.symm hj) h1 o1)
      · rw [List.getElem?_set_ne hj] at h1 h3
        rw [List.getElem?_set_ne hk] at h2 h4
        exact e.apart j k t u c h1 h2 o1 o2 h3 h4
/-- what stands in own slots is there -/
theorem ER.there {S : Sx} {κ : Cp} {I H : Hp} {ρ : Env'} {σ : St} {j : Nat} {t : Sl} {a : Addr} (e : ER S κ I H ρ σ) (h : ρ[j]? = some t) (o : t.isOwn = true) (q : σ[j]? = some (some (.ref a))) : Nt H a ∧ I a = none ∧ a ≠ S.p.a ∧ ¬ Nt κ.h0 a := by
  have r := e.at_ j t _ h q
  cases t with
  | no => cases o
  | val d => cases o
  | own l => obtain ⟨c, z, f, n, p, w⟩ := r; cases z; exact ⟨w.there, n, p, f⟩
  | obj c ns l => obtain ⟨c, z, f, n, p, w, _⟩ := r; cases z; exact ⟨w.there, n, p, f⟩
  | od l => obtain ⟨c, z, f, n, p, w⟩ := r; cases z; exact ⟨w.there, n, p, f⟩
  | ok l => obtain ⟨c, z, f, n, p, w⟩ := r; cases z; exact ⟨w.there, n, p, f⟩
  | oa b l => obtain ⟨c, z, f, n, p, w⟩ := r; cases z; exact ⟨w.there, n, p, f⟩
/-- our own thing at a changes -/
theorem Stp.own {S : Sx} {I H I' H' : Hp} {a : Addr} {o : HO} (x : Stp S I H I' H') (h : ¬ Nt H a) : Stp S I H I' (upd H' a o) := x.updNew h
theorem ER.updOther {S : Sx} {κ : Cp} {I H : Hp} {ρ : Env'} {σ : St} {i : Nat} {a : Addr} {s : Sl} {vs : List V} (e : ER S κ I H ρ σ) (hi : ρ[i]? = some s) (o : s.isOwn = true) (hs : σ[i]? = some (some (.ref a))) {u u' : HO} (ha : H a = some u) (hn : ∀ y, u ≠ .own y) (hu : ∀ y, u' ≠ .own y) :
    ∀ (j : Nat) (t : Sl) (v : Option V), j ≠ i → ρ[j]? = some t → σ[j]? = some v → SlR S κ I (upd H a u') t v := by
  intro j t v hj h1 h2
  have r := e.at_ j t v h1 h2
  cases t with
  | no => trivial
  | val d => exact r
  | own l =>
    obtain ⟨c, rfl, f, n, p, vs, h3, h4⟩ := r
    have hc : c ≠ a := fun z => by
      subst z
      exact hj (e.apart j i _ s c h1 hi rfl o h2 hs)
    exact ⟨c, rfl, f, n, p, vs, by rw [upd_ne hc]; exact h3, h4⟩
  | od l =>
    obtain ⟨c, rfl, f, n, p, vs, h3, h4⟩ := r
    have hc : c ≠ a := fun z => by
      subst z
      exact hj (e.apart j i _ s c h1 hi rfl o h2 hs)
    exact ⟨c, rfl, f, n, p, vs, by rw [upd_ne hc]; exact h3, h4⟩
  | ok l =>
    obtain ⟨c, rfl, f, n, p, vs, h3, h4⟩ := r
    have hc : c ≠ a := fun z => by
      subst z
      exact hj (e.apart j i _ s c h1 hi rfl o h2 hs)
    exact ⟨c, rfl, f, n, p, vs, by rw [upd_ne hc]; exact h3, h4⟩
  | oa b l =>
    obtain ⟨c, rfl, f, n, p, hb, vs, h3, h4⟩ := r
    have hc : c ≠ a := fun z => by
      subst z
      exact hj (e.apart j i _ s c h1 hi rfl o h2 hs)
    exact ⟨c, rfl, f, n, p, hb, vs, by rw [upd_ne hc]; exact h3, h4⟩
  | obj cn ns l =>
    obtain ⟨c, rfl, f, n, p, ⟨C, dx, vs, h3, h4, h5, h6, h7, h8⟩, s1, s2⟩ := r
    have hc : c ≠ a := fun z => by
      subst z
      exact hj (e.apart j i _ s c h1 hi rfl o h2 hs)
    have hd : dx ≠ a := fun z => by
      subst z
      rw [ha] at h5
      exact hn _ (Option.some.inj h5)
    exact ⟨c, rfl, f, n, p, ⟨C, dx, vs, h3, by rw [upd_ne hc]; exact h4, by rw [upd_ne hd]; exact h5, h6, h7, h8⟩, s1, by rw [upd_ne hc]; exact s2⟩
theorem ER.change {S : Sx} {κ : Cp} {I H : Hp} {ρ : Env'} {σ : St} {i : Nat} {a : Addr} {s s' : Sl} (e : ER S κ I H ρ σ) (hi : ρ[i]? = some s) (o : s.isOwn = true) (hs : σ[i]? = some (some (.ref a))) {u u' : HO} (ha : H a = some u) (hn : ∀ y, u ≠ .own y) (hu : ∀ y, u' ≠ .own y)
    (r : SlR S κ I (upd H a u') s' (some (.ref a))) : ER S κ I (upd H a u') (ρ.set i s') σ := by
  have il : i < ρ.length := (List.getElem?_eq_some_iff.mp hi).1
  refine ⟨by simp [e.len], fun j t v h1 h2 => ?_, fun j k t u c h1 h2 o1 o2 h3 h4 => ?_⟩
  · by_cases hj : i = j
    · subst hj
      rw [List.getElem?_set_self il] at h1
      rw [hs] at h2
      cases h1; cases h2
      exact r
    · rw [List.getElem?_set_ne hj] at h1
      exact e.updOther (vs := []) hi o hs ha hn hu j t v (Ne.symm hj) h1 h2
  · have fix : ∀ {j : Nat} {t : Sl}, (ρ.set i s')[j]? = some t → t.isOwn = true → ∃ t', ρ[j]? = some t' ∧ t'.isOwn = true := fun {j t} h o' => by
      by_cases hj : i = j
      · subst hj; exact ⟨s, hi, o⟩
      · rw [List.getElem?_set_ne hj] at h; exact ⟨t, h, o'⟩
    obtain ⟨t1, g1, p1⟩ := fix h1 o1
    obtain ⟨t2, g2, p2⟩ := fix h2 o2
    exact e.apart j k t1 t2 c g1 g2 p1 p2 h3 h4
/-- a thing of our own becomes data: the slots -/
theorem ER.frzTo {S : Sx} {κ : Cp} {I H : Hp} {ρ : Env'} {σ : St} {i : Nat} {s0 : Sl} {a : Addr} {u : HO} {d : D} (w : ER S κ I H ρ σ) (hi : ρ[i]? = some s0) (ho : s0.isOwn = true) (hs : σ[i]? = some (some (.ref a))) (h1 : H a = some u) (n : I a = none) (hu : ∀ y, u ≠ .own y)
    (rd : Rp S (upd I a u) d (.ref a)) : ER S κ (upd I a u) H (ρ.set i (.val d)) σ := by
  have il : i < ρ.length := (List.getElem?_eq_some_iff.mp hi).1
  refine ⟨by simp [w.len], fun j t v g1 g2 => ?_, fun j k t u c g1 g2 o1 o2 g3 g4 => ?_⟩
  · by_cases hj : i = j
    · subst hj
      rw [List.getElem?_set_self il] at g1
      rw [hs] at g2
      cases g1; cases g2
      exact ⟨_, rfl, rd⟩
    · rw [List.getElem?_set_ne hj] at g1
      have r := w.at_ j t v g1 g2
      cases t with
      | no => trivial
      | val d => obtain ⟨u, q1, q2⟩ := r; exact ⟨u, q1, q2.same (same_upd n)⟩
      | own m =>
        obtain ⟨c, rfl, f', n', p', ws, q1, q2⟩ := r
        have hc : c ≠ a := fun z => by subst z; exact hj (w.apart i j _ _ c hi g1 ho rfl hs g2)
        exact ⟨c, rfl, f', by rw [upd_ne hc]; exact n', p', ws, q1, q2.same (same_upd n)⟩
      | od m =>
        obtain ⟨c, rfl, f', n', p', ws, q1, q2⟩ := r
        have hc : c ≠ a := fun z => by subst z; exact hj (w.apart i j _ _ c hi g1 ho rfl hs g2)
        exact ⟨c, rfl, f', by rw [upd_ne hc]; exact n', p', ws, q1, q2.same (same_upd n)⟩
      | ok m =>
        obtain ⟨c, rfl, f', n', p', ws, q1, q2⟩ := r
        have hc : c ≠ a := fun z => by subst z; exact hj (w.apart i j _ _ c hi g1 ho rfl hs g2)
        exact ⟨c, rfl, f', by rw [upd_ne hc]; exact n', p', ws, q1, q2.same (same_upd n)⟩
      | oa b m =>
        obtain ⟨c, rfl, f', n', p', hb, ws, q1, q2⟩ := r
        have hc : c ≠ a := fun z => by subst z; exact hj (w.apart i j _ _ c hi g1 ho rfl hs g2)
        exact ⟨c, rfl, f', by rw [upd_ne hc]; exact n', p', hb, ws, q1, q2.same (same_upd n)⟩
      | obj cn ns m =>
        obtain ⟨c, rfl, f', n', p', ⟨C, dx, ws, q1, q2, q3, q4, q5, q6⟩, s1, s2⟩ := r
        have hc : c ≠ a := fun z => by subst z; exact hj (w.apart i j _ _ c hi g1 ho rfl hs g2)
        have hd : dx ≠ a := fun z => by subst z; rw [h1] at q3; exact hu _ (Option.some.inj q3)
        exact ⟨c, rfl, f', by rw [upd_ne hc]; exact n', p', ⟨C, dx, ws, q1, q2, q3, by rw [upd_ne hd]; exact q4, q5, q6.same (same_upd n)⟩, s1, s2⟩
  · have fix : ∀ {j : Nat} {t : Sl}, (ρ.set i (Sl.val d))[j]? = some t → t.isOwn = true → ρ[j]? = some t := fun {j t} h o' => by
      by_cases hj : i = j
      · subst hj; rw [List.getElem?_set_self il] at h; cases h; cases o'
      · rw [List.getElem?_set_ne hj] at h; exact h
    exact w.apart j k t u c (fix g1 o1) (fix g2 o2) o1 o2 g3 g4
theorem WOk.frzTo {S : Sx} {κ : Cp} {I H : Hp} {b : Nat} {ρ : Env'} {σ : St} {i : Nat} {s0 : Sl} {a : Addr} {u : HO} {d : D} (w : WOk S κ I H b ρ σ) (hi : ρ[i]? = some s0) (ho : s0.isOwn = true) (hs : σ[i]? = some (some (.ref a))) (h1 : H a = some u) (f : ¬ Nt κ.h0 a) (n : I a = none) (p : a ≠ S.p.a) (hu : ∀ y, u ≠ .own y) (pl : Plain' u)
    (rd : Rp S (upd I a u) d (.ref a)) : WOk S κ (upd I a u) H b (ρ.set i (.val d)) σ := ⟨w.sr.freeze h1 n p pl, w.er.frzTo hi ho hs h1 n hu rd, w.st.freeze f n⟩
/-- our own list or dict becomes data -/
def frz (i : Nat) (ρ : Env') : Env' := match ρ[i]? with
  | some (.own l) => ρ.set i (.val (.lst l))
  | some (.ok l) => ρ.set i (.val (.dct (l.map (·.1)) (l.map (·.2))))
  | _ => ρ
theorem krk_out {S : Sx} {I : Hp} : ∀ {l : List (D × D)} {xs : List GV}, KRk S I l xs → KeysG (l.map (·.1)) xs ∧ Rps S I (l.map (·.1)) (xs.map (·.2.1)) ∧ Rps S I (l.map (·.2)) (xs.map (·.2.2))
  | _, _, .nil => ⟨.nil, .nil, .nil⟩
  | _, _, .cons h t => let ⟨a, b, c⟩ := krk_out t; ⟨.cons h.1 a, .cons h.2.1 b, .cons h.2.2 c⟩
theorem WOk.frz {S : Sx} {κ : Cp} {I H : Hp} {b : Nat} {ρ : Env'} {σ : St} (w : WOk S κ I H b ρ σ) (i : Nat) : ∃ I', Same I I' ∧ WOk S κ I' H b (frz i ρ) σ := by
  unfold NW.frz
  split
  · rename_i l hi
    have il2 : i < σ.length := by rw [← w.er.len]; exact (List.getElem?_eq_some_iff.mp hi).1
    have hs : σ[i]? = some σ[i] := List.getElem?_eq_getElem il2
    obtain ⟨a, hv, f, n, p, vs, h1, h2⟩ := w.er.at_ i _ _ hi hs
    rw [hv] at hs
    exact ⟨_, same_upd n, w.frzTo hi rfl hs h1 f n p (fun y z => by cases z) plain_lst (by simp only [Rp]; exact ⟨a, vs, rfl, upd_same, h2.same (same_upd n)⟩)⟩
  · rename_i l hi
    have il2 : i < σ.length := by rw [← w.er.len]; exact (List.getElem?_eq_some_iff.mp hi).1
    have hs : σ[i]? = some σ[i] := List.getElem?_eq_getElem il2
    obtain ⟨a, hv, f, n, p, vs, h1, h2⟩ := w.er.at_ i _ _ hi hs
    rw [hv] at hs
    obtain ⟨k1, k2, k3⟩ := krk_out h2
    exact ⟨_, same_upd n, w.frzTo hi rfl hs h1 f n p (fun y z => by cases z) plain_gdo (by simp only [Rp]; exact ⟨a, vs, rfl, upd_same, k1, k2.same (same_upd n), k3.same (same_upd n)⟩)⟩
  · exact ⟨I, fun _ _ z => z, w⟩

section
variable {X : Cx} {κ : Cp} {E : XK} {st : Stmt} {e o : Expr} {pos : Pos} {t : SW} {te ti : EW} {ts : AW} {i : Nat} {x : Str}
theorem ds_frz (i : Nat) (h : DS X κ E st t) : DS X κ E st (fun ρ => t (frz i ρ)) :=
  PS.imp h fun D σ H ⟨I, ρ, b, w, h⟩ => by
    obtain ⟨I', s, w'⟩ := w.frz i
    exact ⟨I', _, b, w', (t _).mono h (fun _ _ z => z.later s) fun _ _ z => z⟩
def sSetOwn (i : Nat) (ts : AW) : SW := fun ρ => do let l ← ts ρ; pure (.nx (ρ.set i (.own l)))
theorem setOwn_of {S : Sx} {D : Ends} {σ : St} {H : Hp} (h : tDS S κ E (sSetOwn i ts) D σ H) : tDL S κ (wOf E) ts σ H fun v H1 => gName i v σ H1 D.nx := by
  obtain ⟨I, ρ, b, w, h⟩ := h
  refine ⟨I, ρ, b, w.sr, w.er, (ts ρ).mono h (fun l b' h' a vs I' H' x s ha hi hl r => ?_) fun _ _ z => z.kx w.st⟩
  have w' := w.stp x s
  refine h' _ I' H' ⟨s, w'.er.setOwn ⟨a, rfl, w.h0 ha, hi, w.sr.pne ha, vs, hl, r⟩ fun j t _ hj o q => ?_, w'.st⟩ x.ii
  exact ha (w.er.there hj o q).1
theorem ds_setOwn {pos' : Pos} (hN : X.N.Nodup) (hi : X.N[i]? = some x) (hx : Loc X.env.scope x) (he : DL X κ (wOf E) e ts) (hs : swapsWith e (some (.Name x pos')) pos.line X.env = pure false := by rfl) (hf : X.fn x = true ∨ X.env.scope.names.lookup x = some .local := by first | exact .inl rfl | exact .inr rfl | assumption) :
    DS X κ E (.Assign [.Name x pos'] e pos) (sSetOwn i ts) :=
  PS.imp (ps_set hN hi hx he hs hf) fun D σ H h => setOwn_of (S := Sx.of X κ) h
/-- x.append(e) -/
def sAppend (i : Nat) (te : EW) : SW := fun ρ => match ρ[i]? with
  | some (.own l) => do let d ← te ρ; WP.need (l.length < sizeLine) (pure (.nx (ρ.set i (.own (l ++ [d])))))
  | _ => WP.bad
theorem ds_append {apos cpos npos : Pos} (hv : PE X (.Name x npos) (tVar i)) (he : DE X κ (wOf E) e te) 
    (hx : PE X (.Call (.Attribute (.Name x npos) "append" apos) [e] [] cpos) (tBM X.K "list" rAppend (tVar i) (tCons (tD (Sx.of X κ) κ (wOf E) te) tNil)))
    (hs : swapsWith (.Call (.Attribute (.Name x npos) "append" apos) [e] [] cpos) none pos.line X.env = pure false := by rfl) :
    DS X κ E (.Expr (.Call (.Attribute (.Name x npos) "append" apos) [e] [] cpos) pos) (sAppend i te) :=
  PS.imp (ps_expr hx hs) fun D σ H ⟨I, ρ, b, w, h⟩ => by
    unfold sAppend at h
    split at h
    · rename_i l hi
      have il : i < ρ.length := (List.getElem?_eq_some_iff.mp hi).1
      have il2 : i < σ.length := by rw [← w.er.len]; exact il
      have hs : σ[i]? = some σ[i] := List.getElem?_eq_getElem il2
      obtain ⟨a, hv, f, n, p, vs, h1, h2⟩ := w.er.at_ i _ _ hi hs
      rw [hv] at hs
      refine ⟨.ref a, hs, .inl ⟨rfl, _, SqL.of h1⟩, ds_ofE w h fun d b' v I' H' w' x r h' => ?_⟩
      obtain ⟨hz, h'⟩ := h'
      have h1' : H' a = some (.lst vs) := x.hh a _ h1 p (fun z => z)
      have n' : I' a = none := x.nn a (nt_lst h1) n
      refine ⟨a, vs, v, rfl, rfl, h1', by rw [← h2.len]; exact hz, ?_⟩
      refine h' σ I' (upd H' a (.lst (vs ++ [v]))) ⟨w'.sr.updOwn n' p h1', ?_, w'.st.own f⟩ x.ii
      exact w'.er.change hi rfl hs h1' (fun y z => by cases z) (fun y z => by cases z) ⟨a, rfl, f, n', p, _, upd_same, (h2.same x.ii).append (.cons r .nil)⟩
    · exact h.elim
/-- x[k] = e -/
def sSetIx (i : Nat) (te ti : EW) : SW := fun ρ => match ρ[i]? with
  | some (.own l) => do
    let d ← te ρ
    let k ← ti ρ
    match k with
    | .int j => match ixN l.length j with
      | some n => pure (.nx (ρ.set i (.own (l.set n d))))
      | none => WP.bad
    | _ => WP.bad
  | _ => WP.bad
end
end L2.NW
end
section
set_option Elab.async false
set_option autoImplicit false
set_option linter.all false
set_option maxRecDepth 100000
set_option maxHeartbeats 1000000
/-! NwN: instances are made. -/
namespace L2.NW
open PySem PySem.Spec PyProof.Rows
theorem putF_new {f : Str} {v : V} : ∀ {fs : List (Str × V)}, f ∉ fs.map (·.1) → putF f v fs = fs ++ [(f, v)]
  | [], _ => rfl
  | (g, x) :: r, h => by
    simp only [List.map_cons, List.mem_cons, not_or] at h
    show (if g = f then (g, v) :: r else (g, x) :: putF f v r) = _
    rw [if_neg (Ne.symm h.1), putF_new h.2]
    rfl
theorem zip_snoc {α β : Type} : ∀ {xs : List α} {ys : List β} {a : α} {b : β}, xs.length = ys.length → (xs ++ [a]).zip (ys ++ [b]) = xs.zip ys ++ [(a, b)]
  | [], [], _, _, _ => rfl
  | x :: xs, [], _, _, h => by simp at h
  | [], y :: ys, _, _, h => by simp at h
  | x :: xs, y :: ys, a, b, h => by simp [zip_snoc (xs := xs) (ys := ys) (a := a) (b := b) (by simpa using h)]
theorem zip_keys {α β : Type} : ∀ {xs : List α} {ys : List β}, xs.length = ys.length → (xs.zip ys).map (·.1) = xs
  | [], [], _ => rfl
  | x :: xs, [], h => by simp at h
  | [], y :: ys, h => by simp at h
  | x :: xs, y :: ys, h => by simp [zip_keys (xs := xs) (ys := ys) (by simpa using h)]
section
variable {X : Cx} {κ : Cp} {E : XK} {e : Expr} {pos : Pos} {te : EW} {i : Nat} {x f : Str} {cs : List Str}
/-- self.f = e, a field that is new -/
def sFldD (i : Nat) (cs : List Str) (f : Str) (te : EW) : SW := fun ρ => match ρ[i]? with
  | some (.obj c ns l) => do let d ← te ρ; WP.need (c ∈ cs ∧ f ∉ ns ∧ ns.length < 1000) (pure (.nx (ρ.set i (.obj c (ns ++ [f]) (l ++ [d])))))
  | _ => WP.bad
theorem ds_fld {npos apos : Pos} (hF : FldF X.K X.mg cs f) (hv : PE X (.Name x npos) (tVar i)) (he : DE X κ (wOf E) e te) (hs : swapsWith e (some (.Attribute (.Name x npos) f apos)) pos.line X.env = pure false := by rfl) :
    DS X κ E (.Assign [.Attribute (.Name x npos) f apos] e pos) (sFldD i cs f te) :=
  PS.imp (ps_fld hv he hs) fun D σ H ⟨I, ρ, b, w, h⟩ => by
    unfold sFldD at h
    split at h
    · rename_i c ns l hi
      have il : i < ρ.length := (List.getElem?_eq_some_iff.mp hi).1
      have il2 : i < σ.length := by rw [← w.er.len]; exact il
      have hs : σ[i]? = some σ[i] := List.getElem?_eq_getElem il2
      obtain ⟨a, hv, fr, n, p, ⟨C, dx, vs, h1, h2, h3, h4, h5, h6⟩, s1, s2⟩ := w.er.at_ i _ _ hi hs
      rw [hv] at hs
      refine ds_ofE w h fun d b' v I' H' w' x r h' => ?_
      obtain ⟨⟨hc, hn, hl⟩, h'⟩ := h'
      have dp : dx ≠ (Sx.of X κ).p.a := fun z => by
        obtain ⟨ca, q, e, _⟩ := w.sr.pen
        rw [z, e] at h3; cases h3
      have g2 : H' a = some (.ins C dx (ns.zip vs)) := x.hh a _ h2 p (fun z => z)
      have g3 : H' dx = some (.own a) := x.hh dx _ h3 dp (fun z => z)
      have n' : I' a = none := x.nn a (nt_ins h2) n
      have n4 : I' dx = none := x.nn dx (nt_own h3) h4
      obtain ⟨k1, k2⟩ := hF c hc C h1
      refine ⟨.ref a, hs, a, C, dx, _, rfl, g2, k1, k2, ?_, ?_⟩
      · rw [List.length_zip]; omega
      · have e1 : putF f v (ns.zip vs) = (ns ++ [f]).zip (vs ++ [v]) := by
          rw [zip_snoc h5, putF_new (by rw [zip_keys h5]; exact hn)]
        rw [e1]
        have da : dx ≠ a := fun z => by rw [z, h2] at h3; cases h3
        refine h' σ I' (upd H' a (.ins C dx ((ns ++ [f]).zip (vs ++ [v])))) ⟨w'.sr.updOwn n' p g2, ?_, w'.st.own fr⟩ x.ii
        exact w'.er.change hi rfl hs g2 (fun y z => by cases z) (fun y z => by cases z) ⟨a, rfl, fr, n', p, ⟨C, dx, _, h1, upd_same, by rw [upd_ne da]; exact g3, n4, by simp [h5], (h6.same x.ii).append (.cons r .nil)⟩, s1, fun C' dx' fs' q => by rw [upd_same] at q; cases q; exact s2 _ _ _ h2⟩
    · exact h.elim
end
/-! ### __init__ -/
/-- what an __init__ is worth: the fields' names and values -/
abbrev MirI := List D → WP (List Str × List D)
def spI (S : Sx) (C : Addr) (m : MirI) : Sp := fun vs H Q E => ∃ x dx ws I b ds, vs = .ref x :: ws ∧ H x = some (.ins C dx []) ∧ H dx = some (.own x) ∧ I x = none ∧ I dx = none ∧ SR S I H b ∧ Rps S I ds ws ∧
  (m ds).run b (fun r b' => ∀ I' H' us, Stp S I (fun a => if a = x ∨ a = dx then none else H a) I' H' → SR S I' H' b' → I' x = none → H' x = some (.ins C dx (r.1.zip us)) → r.1.length = us.length → Rps S I' r.2 us → Q .non H')
    (fun y b' => ∀ cls d I' H', Stp S I (fun a => if a = x ∨ a = dx then none else H a) I' H' → SR S I' H' b' → XR S I' y cls d → E cls d H')
def endI (c : Str) : Fl → WP (List Str × List D)
  | .nx ρ => match (ρ : List Sl)[0]? with
    | some (Sl.obj c' ns l) => WP.need (c' = c) (pure (ns, l))
    | _ => WP.bad
  | _ => WP.bad
def bodyI (c : Str) (n : Nat) (t : SW) : MirI := fun ds => t (.obj c [] [] :: startD n ds) >>= endI c
structure CalC (P : Program) (w : World) (K : PySem.W.Frag) (mg : Str → Option Value) (base : Heap) (p : Pt) (k : Nat) (c : Str) (n : Nat) (m : MirI) : Prop where
  ex : ∃ (C f : Addr) (fd : FuncData) (ps : List Str), mg c = some (.ref C) ∧ Mk K C f ∧ Binds K fd ps [] ∧ ps.length = n + 1 ∧
    FnOk P w K mg base (L2.CX P w) k f fd ps (fun vs H Q E => vs.length = n + 1 ∧ spI ⟨K, mg, p, w⟩ C m vs H Q E)
theorem calc_of {P : Program} {w : World} {K : PySem.W.Frag} {mg : Str → Option Value} {base : Heap} {p : Pt} {c qual : Str} {st : Stmt} {C f : Addr} {fd : FuncData} {N ps : List Str} {k n : Nat} {t : SW} (hm : mg c = some (.ref C)) (hM : Mk K C f) (F : Fun K "__init__" qual st f fd) (S : FnScope N ps (defScope st)) (hn : ps.length = n + 1)
    (hb : Binds K fd ps []) {M : Nat} (hN : N.length = M + 1)
    (body : ∀ (κ : Cp) (cdv : Value) (A : Around) (outer : List Env) (s : Shared) (H : Hp) (E : XK), κ.p = p → Room k (A.deeper (envOfC qual (defScope st) s.heap.objs.size f cdv)) →
      DSs (cxOf (L2.CX P w) P w K mg base N qual (defScope st) f cdv A outer s H E) κ E (defBody st) t) : CalC P w K mg base p (k + 1) c n (bodyI c M t) := by
  refine ⟨C, f, fd, ps, hm, hM, hb, hn, F.okX S (fun vs H Q E h => h.1.trans hn.symm) fun cdv A outer s H vs Q E hr h => ?_⟩
  obtain ⟨hl, x, dx, ws, I, b, ds, rfl, hx, hdx, ix, idx, sr, r, h⟩ := h
  have xp : x ≠ p.a := fun z => by
    obtain ⟨ca, q, e, _⟩ := sr.pen
    have e' : H p.a = _ := e
    rw [← z, hx] at e'; cases e'
  have er0 : ER ⟨K, mg, p, w⟩ ⟨p, I, fun a => if a = x ∨ a = dx then none else H a, x, dx⟩ I H (.obj c [] [] :: startD M ds) (L2.start N (.ref x :: ws)) := by
    obtain ⟨y, N', rfl⟩ : ∃ y N', N = y :: N' := by
      cases N with
      | nil => simp at hN
      | cons y N' => exact ⟨y, N', rfl⟩
    have hM' : N'.length = M := by simpa using hN
    have e0 : ER ⟨K, mg, p, w⟩ ⟨p, I, fun a => if a = x ∨ a = dx then none else H a, x, dx⟩ I H (startD N'.length ds) (L2.start N' ws) := r.start
    rw [hM'] at e0
    have est : L2.start (y :: N') (.ref x :: ws) = some (.ref x) :: L2.start N' ws := by simp [L2.start]
    rw [est]
    have nown : ∀ (j : Nat) (t : Sl), (startD M ds)[j]? = some t → t.isOwn = false := fun j t h1 => by
      unfold startD at h1
      have := List.mem_of_getElem? h1
      rw [List.mem_append, List.mem_map, List.mem_replicate] at this
      rcases this with ⟨d, _, rfl⟩ | ⟨_, rfl⟩ <;> rfl
    refine ⟨by simp [e0.len], fun i s o h1 h2 => ?_, fun i j s t a h1 h2 o1 o2 h3 h4 => ?_⟩
    · cases i with
      | zero =>
        simp only [List.getElem?_cons_zero, Option.some.injEq] at h1 h2
        subst h1; subst h2
        exact ⟨x, rfl, not_nt (by simp), ix, xp, ⟨C, dx, [], hm, hx, hdx, idx, rfl, .nil⟩, rfl, fun C' dx' fs' q => by rw [hx] at q; cases q; rfl⟩
      | succ i => exact e0.at_ i s o (by simpa using h1) (by simpa using h2)
    · cases i with
      | zero =>
        cases j with
        | zero => rfl
        | succ j => rw [nown j t (by simpa using h2)] at o2; cases o2
      | succ i => rw [nown i s (by simpa using h1)] at o1; cases o1
  have st0 : Stp ⟨K, mg, p, w⟩ I (fun a => if a = x ∨ a = dx then none else H a) I H := by
    refine ⟨fun _ _ z => z, fun a o e _ _ => ?_, fun _ _ z => z, fun a e => ?_⟩
    · have e' : (if a = x ∨ a = dx then none else H a) = some o := e
      split at e'
      · cases e'
      · exact e'
    · obtain ⟨u, e1, e2⟩ := e
      have e' : (if a = x ∨ a = dx then none else H a) = some u := e1
      split at e'
      · cases e'
      · exact ⟨u, e', e2⟩
  refine ⟨_, body ⟨p, I, fun a => if a = x ∨ a = dx then none else H a, x, dx⟩ cdv A outer s H E rfl hr, I, _, b, ⟨sr, er0, st0⟩, ?_⟩
  refine (t (.obj c [] [] :: startD M ds)).mono h (fun fl b' h' => ?_) fun _ _ z cls d I' H' s' x' r' => z cls d I' H' x' s' r'
  cases fl with
  | nx ρ =>
    refine fun σ I' H' w' _ => ?_
    unfold endI at h'
    simp only at h'
    split at h'
    · rename_i c' ns l e
      obtain ⟨hcc, h'⟩ := h'
      have hl0 : 0 < ρ.length := (List.getElem?_eq_some_iff.mp e).1
      have hl1 : 0 < σ.length := by rw [← w'.er.len]; exact hl0
      obtain ⟨a, _, _, n', _, ⟨C', dx', us, g1, g2, _, _, g5, g6⟩, s1, s2⟩ := w'.er.at_ 0 _ _ e (List.getElem?_eq_getElem hl1)
      have s1 : a = x := s1
      subst s1
      have s2 : dx' = dx := s2 _ _ _ g2
      subst s2
      have eC : C' = C := by
        have g1 : mg c' = some (.ref C') := g1
        rw [hcc, hm] at g1
        cases g1
        rfl
      subst eC
      exact h' I' H' us w'.st w'.sr n' g2 g5 g6
    · exact False.elim h'
  | rt d => exact h'.elim
  | bk ρ => exact h'.elim
  | ct ρ => exact h'.elim
section
variable {X : Cx} {κ : Cp} {E : XK} {e : Expr} {es : List Expr} {pos pn : Pos} {c : Str} {ts : AW} {m : MirI}
def insD (c : Str) (r : List Str × List D) : WP D := pure (.ins c r.1 r.2)
/-- C(e, ..) -/
theorem de_make {j k n : Nat} (cc : CalC X.prog X.w X.K X.mg X.base κ.p j c n m) (hr : Room k X.A) (hj : j + 1 ≤ k) (hg : Gl X c) (tk : Takes X (wOf E)) (ha : DA X κ (wOf E) (e :: es) ts) (hdb : (c == ("__debug__" : Str)) = false := by decide)
    (he : starEach (e :: es) X.env = (false, eval e X.env) :: starEach es X.env := by rfl) (hpl : (backTo pos (starEach es X.env)).any (·.1) = false := by rfl) :
    DE X κ (wOf E) (.Call (.Name c pn) (e :: es) [] pos) (fun ρ => do let xs ← ts ρ; WP.need (xs.length = n) (m xs >>= insD c)) := by
  obtain ⟨C, f, fd, ps, h1, h2, h3, h4, h5⟩ := cc.ex
  refine PE.imp (pe_make (E := E) h2 (h5.mono (show j ≤ j from Nat.le_refl _)) (hr.mono hj) hg h1 h3 (dvs := []) (ds := []) .nil (passes_call tk fun _ _ _ _ z => z) ha hdb he hpl) fun σ H Q ⟨I, ρ, b, sr, er, h⟩ => ?_
  refine tDA_bind sr er h fun d b1 v I1 H1 x1 s1 er1 r1 h1' => fun x dx hx hdx hne => ?_
  obtain ⟨hn, h1'⟩ := h1'
  rw [List.append_nil]
  have i1 : I1 x = none := s1.sub.free hx
  have i2 : I1 dx = none := s1.sub.free hdx
  have hH0 : (fun a => if a = x ∨ a = dx then none else upd (upd H1 dx (.own x)) x (.ins C dx []) a) = H1 := by
    funext a
    by_cases z1 : a = x
    · simp [z1, hx]
    · by_cases z2 : a = dx
      · simp [z2, hdx]
      · simp [z1, z2, upd_ne z1, upd_ne z2]
  have s2 : SR (Sx.of X κ) I1 (upd (upd H1 dx (.own x)) x (.ins C dx [])) b1 := (s1.newOwn hdx).newOwn (by rw [upd_ne (Ne.symm hne)]; exact hx)
  refine ⟨by simp [← r1.len, hn], x, dx, v, I1, b1, d, rfl, upd_same, by rw [upd_ne hne]; exact upd_same, i1, i2, s2, r1, ?_⟩
  rw [hH0]
  refine (m d).mono h1' (fun r b' z I' H' us st sr' ix hx' hl rr => ⟨rfl, ?_⟩) fun y b' z cls dd I' H' st sr' xr => z cls dd I' H' st sr' xr
  have xp : x ≠ (Sx.of X κ).p.a := s1.pne (not_nt hx)
  refine z (.ref x) (upd I' x (.ins C dx (r.1.zip us))) H' (x1.trans (st.freeze (not_nt hx) ix)) (sr'.freeze hx' ix xp) ?_
  simp only [Rp]
  exact ⟨x, C, dx, us, rfl, h1, upd_same, hl, rr.same (same_upd ix)⟩
end
end L2.NW
end
section
set_option Elab.async false
set_option autoImplicit false
set_option linter.all false
set_option maxRecDepth 100000
set_option maxHeartbeats 1000000
/-! NwP: errors of the program's own classes: made and raised. -/
namespace L2.NW
open PySem PySem.Spec PyProof.Rows
/-! ### the text of an __init__ that hands all to super() and keeps all -/
inductive NmS : List Str → List Expr → Prop
  | nil : NmS [] []
  | cons {f : Str} {fs : List Str} {es : List Expr} {p : Pos} (r : NmS fs es) : NmS (f :: fs) (.Name f p :: es)
inductive FdS : List Str → List Stmt → Prop
  | nil : FdS [] []
  | cons {f : Str} {fs : List Str} {b : List Stmt} {q1 q2 q3 q4 : Pos} (r : FdS fs b) : FdS (f :: fs) (.Assign [.Attribute (.Name "self" q1) f q2] (.Name f q3) q4 :: b)
inductive IniS (fs : List Str) : List Stmt → Prop
  | mk {es : List Expr} {b : List Stmt} {q0 q1 q2 q3 q4 : Pos} (n : NmS fs es) (r : FdS fs b)
      (he : ∀ env : Env, eval (.Call (.Attribute (.Call (.Name "super" q0) [] [] q1) "__init__" q2) es [] q3) env = (do
        let ov ← attributeBase (.Call (.Name "super" q0) [] [] q1) "__init__" env (eval (.Call (.Name "super" q0) [] [] q1) env)
        standAt q2.atName
        let (f, first) ← holding [ov] (getMethod ov "__init__" (do return (← importBound (.Call (.Name "super" q0) [] [] q1) env).getD true))
        callWith q3 f first (backTo q3 (starEach es env)) [])) : IniS fs (.Expr (.Call (.Attribute (.Call (.Name "super" q0) [] [] q1) "__init__" q2) es [] q3) q4 :: b)

theorem nm_load {M : Model} {A : Around} {E : Value → Shared → Prop} {s : Shared} {env : Env} {m : Str → Option Value} {x : Str} {p : Pos} {v : Value} {Q : Value → Shared → Prop} (hn : s.heap.Ns env.locals m) (hv : m x = some v) (hk : env.scope.kind = .function) (hl : env.kindOf x = some .local) (hd : (x == ("__debug__" : Str)) = false)
    (h : Q v s) : wpAny M A (eval (.Name x p) env) Q E s := wpAny_Name (wpAny_loadName_local hk hl hn hv h) hd
theorem nms_plain {env : Env} {pos : Pos} : ∀ {fs : List Str} {es : List Expr}, NmS fs es → (backTo pos (starEach es env)).any (·.1) = false
  | _, _, .nil => rfl
  | _, _, .cons r => by
    have h := nms_plain (env := env) (pos := pos) r
    exact h
theorem nms_spliced {M : Model} {A : Around} {E : Value → Shared → Prop} {env : Env} {m : Str → Option Value} {pos : Pos} (hk : env.scope.kind = .function) :
    ∀ {fs : List Str} {es : List Expr} {vs : List Value} {s : Shared} {Q : List Value → Shared → Prop}, NmS fs es → s.heap.Ns env.locals m → (∀ f ∈ fs, env.kindOf f = some .local ∧ (f == ("__debug__" : Str)) = false) → fs.map m = vs.map some →
      Q vs s → wpAny M A (spliced (backTo pos (starEach es env))) Q E s
  | _, _, vs, s, Q, .nil, hn, hl, hv, h => by
    cases vs with
    | nil => exact Calls.spliced_nil h
    | cons v vs => simp at hv
  | _, _, vs, s, Q, .cons (f := f) (fs := fs) (es := es) (p := p) r, hn, hl, hv, h => by
    cases vs with
    | nil => simp at hv
    | cons v vs =>
      simp only [List.map_cons, List.cons.injEq] at hv
      obtain ⟨l1, l2⟩ := hl f (List.mem_cons_self ..)
      show wpAny M A (spliced ((false, eval (.Name f p) env) :: backTo pos (starEach es env))) Q E s
      exact Calls.spliced_cons (nm_load hn hv.1 hk l1 l2 (nms_spliced hk r hn (fun g hg => hl g (List.mem_cons_of_mem _ hg)) hv.2 h))

/-! ### what the written part says of such a class -/
structure ErrT (prog : Program) (K : PySem.W.Frag) (mg : Str → Option Value) (x : Str) (fs : List Str) (C fI : Addr) : Prop where
  gC : mg x = some (.ref C)
  cls : ∃ nm q N bs bm sn sub ab col dd k0 k1 k2 k3 k5, K.lookup C = some (excClassObj nm q C N bs bm true sn sub ab col dd k0 k1 k2 k3 k5 "ValueError.__new__") ∧ PySem.HandSPX.refsVE bm = true
  sa : PySem.W.findIn K (.ref C) "__setattr__" = some (some (.builtin "object.__setattr__"))
  xf : XfC K C
  noF : ∀ f ∈ fs, PySem.W.findIn K (.ref C) f = some none
  iC : PySem.W.findIn K (.ref C) "__init__" = some (some (.ref fI))
  tI : PySem.W.typeIn K (.ref fI) = some (.type "function")
  kC : PySem.W.keepIn K (.ref C) = true
  exC : PySem.W.subIn K (.ref C) (.type "BaseException") = some true
  tyC : PySem.W.typeIn K (.ref C) = some (.type "type")
  sup : PySem.W.ks_superIn K C C "__init__" = some (some (.builtin "ValueError.__init__"))
  subV : PySem.W.subIn K (.ref C) (.type "ValueError") = some true
  slf : PySem.W.mroIn K C (.ref C) = some true
  tp : PySem.W.nsIn K cStatics "thirdparty.any" = some none
  nosup : mg "super" = none
  nd : (("self" : Str) :: fs).Nodup
  few : fs.length ≤ 100
  some_ : fs ≠ []
  fn : ∃ (qual : Str) (params : Arguments) (body : List Stmt) (scope : Scope) (dV kV doc pm ct oc ccl cl : Value) (an od cdd cld : Option Addr) (cda cc : Addr) (osl ccs csl : Array (Option Value)) (ws : Array Value) (file : Str) (tf : Tok) (ar : Arg),
    K.lookup fI = some ⟨oc, od, .func (PySem.W.ksFn "__init__" qual params body scope dV kV doc pm an (.ref cda) ct cc), osl⟩ ∧ PySem.W.codeIn K (.ref cda) qual = true ∧ IniS fs body ∧
    K.lookup cda = some ⟨ccl, cdd, .fields ws, ccs⟩ ∧ ws[2]? = some (.str file tf) ∧ ((prog.main.file : Str) == file) = true ∧ (prog.main.scope.names.lookup ("super" : Str)).isSome = false ∧ K.lookup cc = some ⟨cl, cld, .cell (some (.ref C)), csl⟩ ∧
    scope.kind = .function ∧ scope.isCoroutine = false ∧ scope.isGenerator = false ∧ (∀ y ∈ scope.names, y.2 ≠ .cell) ∧ scope.names.lookup ("super" : Str) = some .globalImplicit ∧ scope.names.lookup ("__class__" : Str) = some .free ∧
    (∀ g ∈ ("self" : Str) :: fs, scope.names.lookup g = some .local ∧ (g == ("__debug__" : Str)) = false) ∧ (params.posonlyargs ++ params.args).head? = some ar ∧ ar.arg = "self" ∧
    ∀ (s : Shared) (us : List Value), us.length = fs.length + 1 → BindsTo s (PySem.W.ksFn "__init__" qual params body scope dV kV doc pm an (.ref cda) ct cc) ⟨us, []⟩ ((("self" : Str) :: fs).zip us)

/-! ### the fields are laid, one by one -/
theorem ns_keep {h h' : Heap} {L : Addr} {m : Str → Option Value} (hn : h.Ns L m) (k : ∀ o, h.get? L = some o → h'.get? L = some o) : h'.Ns L m := by
  obtain ⟨o, es, ep, ho, r⟩ := hn
  exact ⟨o, es, ep, k o ho, r⟩
theorem within_look : ∀ {l : List (Str × Value)}, Within (fun y => l.lookup y) (l.map (·.1))
  | [], y, h => absurd rfl h
  | (g, v) :: r, y, h => by
    by_cases e : y = g
    · rw [e]; exact List.mem_cons_self ..
    · have q : (y == g) = false := by simpa using e
      refine List.mem_cons_of_mem _ (within_look (l := r) y fun z => h ?_)
      show List.lookup y ((g, v) :: r) = none
      rw [List.lookup_cons, q]
      exact z
theorem look_snoc {f : Str} {v : Value} : ∀ {l : List (Str × Value)}, f ∉ l.map (·.1) → (fun y => if y = f then some v else l.lookup y) = fun y => (l ++ [(f, v)]).lookup y
  | l, h => by
    funext y
    induction l with
    | nil =>
      by_cases e : y = f
      · subst e; simp
      · have q : (y == f) = false := by simpa using e
        simp [List.lookup_cons, e, q]
    | cons p r ih =>
      obtain ⟨g, u⟩ := p
      simp only [List.map_cons, List.mem_cons, not_or] at h
      by_cases e : y = g
      · subst e
        simp [Ne.symm h.1]
      · have q : (y == g) = false := by simpa using e
        have := ih h.2
        simp only [List.cons_append, List.lookup_cons, q] at this ⊢
        exact this

section
variable {prog : Program} {w : World} {A : Around} {K : PySem.W.Frag} {C x dx : Addr} {env : Env} {m : Str → Option Value} {g : Array GenState} {d : Drawn} {os : OsState} {E : Value → Shared → Prop} {cd : ClassData} {fv : Array Value} {Q : Flow → Shared → Prop}
theorem fds_rest (hcd : PySem.W.clsIn K C = some cd) (hm : PySem.HandSPX.refsVE cd.mro = true) (hh : cd.hasDict = true) (hs : PySem.W.findIn K (.ref C) "__setattr__" = some (some (.builtin "object.__setattr__"))) (hfv : ∀ c, (Data.fields fv) ≠ Data.cls c) (hk : env.scope.kind = .function)
    (hself : m "self" = some (.ref x)) (hLd : env.locals ≠ dx) (sl : env.kindOf "self" = some .local) :
    ∀ {fs : List Str} {b : List Stmt} {vs : List Value} {done : List (Str × Value)} {h : Heap} {t : Nat}, FdS fs b → K.In h → h.Ns env.locals m → (∀ f ∈ fs, PySem.W.findIn K (.ref C) f = some none ∧ env.kindOf f = some .local ∧ (f == ("__debug__" : Str)) = false) → fs.map m = vs.map some →
      h.get? x = some { cls := .ref C, dict := some dx, data := .fields fv } → h.Ns1 dx (fun y => done.lookup y) → (∀ f ∈ fs, f ∉ done.map (·.1)) → fs.Nodup → done.length + fs.length ≤ 900 → K.lookup dx = none → x ≠ dx →
      (∀ h' t', (∀ b o, b ≠ dx → h.get? b = some o → h'.get? b = some o) → h'.Ns1 dx (fun y => (done ++ fs.zip vs).lookup y) → Q .next ⟨h', g, d, t', os⟩) → wpAny (model prog w) A (execs b env) Q E ⟨h, g, d, t, os⟩
  | _, _, vs, done, h, t, .nil, X, hn, hl, hv, hx, hd, nw, nd, few, kd, xd, q => by
    refine wpAny_execs_nil (q h t (fun _ _ _ e => e) ?_)
    simpa using hd
  | _, _, vs, done, h, t, .cons (f := f) (fs := fs) (b := b) r, X, hn, hl, hv, hx, hd, nw, nd, few, kd, xd, q => by
    cases vs with
    | nil => simp at hv
    | cons v vs =>
      simp only [List.map_cons, List.cons.injEq] at hv
      obtain ⟨l1, l2, l3⟩ := hl f (List.mem_cons_self ..)
      refine wpAny_execs_cons (plainObj_wpAny_Assign_Attribute (nm_load hn hv.1 hk l2 l3 (nm_load hn hself hk sl (by decide) ?_)))
      obtain ⟨oD, es, ep, hoD, z1, z2⟩ := hd.count within_look
      refine PySem.W.set_plain X (ox := { cls := .ref C, dict := some dx, data := .fields fv }) (od := some oD) ⟨hx, rfl, rfl, hoD⟩ hs ?_
      refine PySem.OEX.osa_old X hx hd within_look (by rw [List.length_map]; simp only [List.length_cons] at few; omega) hcd hm hh l1 (fun h' tk' k hn' => ?_)
      rw [look_snoc (nw f (List.mem_cons_self ..))] at hn'
      have nd' := List.nodup_cons.mp nd
      refine fds_rest hcd hm hh hs hfv hk hself hLd sl r (fun a o e => k a o (fun z => by rw [z, kd] at e; cases e) (X a o e)) (ns_keep hn fun o e => k _ o hLd e) (fun f' hf' => hl f' (List.mem_cons_of_mem _ hf')) hv.2 (k _ _ xd hx) hn' (fun f' hf' => ?_) nd'.2 ?_ kd xd fun h2 t2 k2 n2 => ?_
      · rw [List.map_append, List.mem_append, not_or]
        refine ⟨nw f' (List.mem_cons_of_mem _ hf'), fun z => ?_⟩
        simp only [List.map_cons, List.map_nil, List.mem_singleton] at z
        subst z
        exact nd'.1 hf'
      · simp only [List.length_append, List.length_cons, List.length_nil] at few ⊢
        omega
      · refine q h2 t2 (fun b o hb e => k2 b o hb (k b o hb e)) ?_
        simpa using n2
end
section
variable {prog : Program} {w : World} {A : Around} {E : Value → Shared → Prop} {K : PySem.W.Frag} {C : Addr} {g : Array GenState} {d : Drawn} {t : Nat} {os : OsState}
variable {nm q : Str} {N : Addr} {bs bm : List Value} {sn : List Str} {sub : List Value} {ab : Bool} {col : Option Bool} {dd : Option Addr} {k0 k1 k2 k3 k5 : Option Value}
/-- the bound ValueError.__init__ is called -/
theorem mw_called {h : Heap} {u e t0 : Addr} {rest : List Value} {Q : Value → Shared → Prop} (hu : h.get? u = some (PySem.W.kxs_mw "ValueError.__init__" e)) (hC : h.get? C = some (excClassObj nm q C N bs bm true sn sub ab col dd k0 k1 k2 k3 k5 "ValueError.__new__"))
    (he : h.get? e = some (PySem.HandSPX.excO C t0)) (hz : rest.length ≤ sizeLine) (hq : ∀ h' t1, (∀ b o, b ≠ e → h.get? b = some o → h'.get? b = some o) → h'.get? e = some (PySem.HandSPX.excO C t1) → Q .none ⟨h', g, d, t, os⟩) :
    wpAny (model prog w) A (call (.ref u) rest) Q E ⟨h, g, d, t, os⟩ := by
  have FB := F.excBase_ValueError
  refine wpAny_call (codeAny_of_tree ?_)
  show wpAny _ A.in1 (callAny (.ref u) ⟨rest, []⟩) _ _ _
  simp only [callAny]
  refine wpAny_bind (wpAny_load hu ?_)
  have isW : (Value.type "method-wrapper" == Value.type "method" || Value.type "method-wrapper" == Value.type "builtin_function_or_method" || Value.type "method-wrapper" == Value.type "method-wrapper") = true := by decide
  simp only [PySem.W.kxs_mw, isW, if_true]
  refine PySem.W.KFB.if_so (by decide) (wpAny_bind (PySem.W.check_bound_init FB.toExcCallFacts hC he rfl (wpAny_bind (wpAny_pure (wpAny_pure ⟨plainId_quiet FB.init.plain _, codeAny_builtin FB.initEntry ?_⟩)))))
  exact PySem.W.exc_init_tree (cls := .ref C) (t0 := t0) (dv := none) (c2 := .none) (c3 := .none) (b4 := .bool false) he hz fun h' k e' _ => hq h' _ k e'
end
section
variable {prog : Program} {w : World} {A : Around} {R : Result → Shared → Prop} {K : PySem.W.Frag} {mg mb : Str → Option Value} {C fI : Addr} {n : Str} {fs : List Str}
theorem zip_look {fs : List Str} {vs : List Value} (nd : fs.Nodup) : ∀ {i : Nat} {f : Str} {v : Value}, fs[i]? = some f → vs[i]? = some v → (fs.zip vs).lookup f = some v := by
  induction fs generalizing vs with
  | nil => intro i f v h; simp at h
  | cons a fs ih =>
    intro i f v h1 h2
    cases vs with
    | nil => simp at h2
    | cons u vs =>
      cases i with
      | zero =>
        simp only [List.getElem?_cons_zero, Option.some.injEq] at h1 h2
        subst h1; subst h2
        simp
      | succ i =>
        simp only [List.getElem?_cons_succ] at h1 h2
        have nd' := List.nodup_cons.mp nd
        have ne : (f == a) = false := by
          have hm := List.mem_of_getElem? h1
          simp only [beq_eq_false_iff_ne, ne_eq]
          intro z; subst z; exact nd'.1 hm
        rw [List.zip_cons_cons, List.lookup_cons, ne]
        exact ih nd'.2 h1 h2
theorem look_rev : ∀ {l : List (Str × Value)} {f : Str}, (l.map (·.1)).Nodup → l.reverse.lookup f = l.lookup f
  | [], f, _ => rfl
  | (a, v) :: l, f, h => by
    simp only [List.map_cons, List.nodup_cons] at h
    rw [List.reverse_cons]
    have nr : a ∉ l.reverse.map (·.1) := by rw [List.map_reverse, List.mem_reverse]; exact h.1
    have e := congrFun (look_snoc (v := v) nr) f
    rw [← e, look_rev h.2, List.lookup_cons]
    by_cases z : f = a
    · rw [if_pos z]; simp [z]
    · have q : (f == a) = false := by simpa using z
      rw [if_neg z, q]
theorem exc_init (T : ErrT prog K mg n fs C fI) {h : Heap} {g : Array GenState} {d : Drawn} {t : Nat} {os : OsState} {x t0 : Addr} {vs : List Value} (X : K.In h) (hlim : h.NoLimit) (hg : h.Ns mainGlobals mg) (hb : h.Ns builtinsNs mb) (hbs : mb "super" = some (.type "super"))
    (hx : h.get? x = some (PySem.HandSPX.excO C t0)) (hnx : K.lookup x = none) (hroom : A.depth < recursionLimit) (hlen : vs.length = fs.length)
    (hq : ∀ h' tk dx t1, (∀ b o, b ≠ x → h.get? b = some o → h'.get? b = some o) → h'.get? x = some { cls := .ref C, dict := some dx, data := .fields #[.ref t1, .none, .none, .none, .bool false, .none] } → h.objs.size ≤ dx → dx ≠ x → h'.Ns1 dx (fun y => (fs.zip vs).lookup y) → R (.ok (.ret .none)) ⟨h', g, d, tk, os⟩) :
    codeAny (model prog w) A (.call (.ref fI) ⟨.ref x :: vs, []⟩) R ⟨h, g, d, t, os⟩ := by
  obtain ⟨qual, params, body, scope, dV, kV, doc, pm, ct, oc, ccl, cl, an, od, cdd, cld, cda, cc, osl, ccs, csl, ws, file, tf, ar, ho, hcd, hbody, hcda, hws, hfile, htop, hcc, hk, hco, hgen, hcell, lsup, lcls, lloc, hpar, har, hbind⟩ := T.fn
  obtain ⟨nm, q, N, bs, bm, sn, sub, ab, col, dd, k0, k1, k2, k3, k5, hC, hbm⟩ := T.cls
  have hcl : PySem.W.clsIn K C = some { name := nm, bases := bs, mro := .ref C :: bm, ns := N, qualname := q, hasDict := true, slotNames := sn, subclasses := sub, abstract := ab, collection := col, hasDel := false } := by unfold PySem.W.clsIn; rw [hC] <;> rfl
  refine PySem.ks_codeAny_call_defAt (fd := PySem.W.ksFn "__init__" qual params body scope dV kV doc pm an (.ref cda) ct cc) (body := body) (binds := (("self" : Str) :: fs).zip (.ref x :: vs)) hroom (X _ _ ho) rfl hlim (PySem.W.codeRec_of X hcd) rfl (hbind _ _ (by simp [hlen])) hcell
    (fun y hy => (lloc y.1 (List.of_mem_zip hy).1).1) (fun h₁ hns hk₁ => ?_) hco hgen hk
  -- the names
  have hlook : ∀ (i : Nat) (f : Str) (v : Value), (("self" : Str) :: fs)[i]? = some f → (Value.ref x :: vs)[i]? = some v → (((("self" : Str) :: fs).zip (Value.ref x :: vs)).reverse).lookup f = some v := fun i f v h1 h2 => by
    rw [look_rev (by rw [List.map_fst_zip (by simp [hlen])]; exact T.nd)]
    exact zip_look T.nd h1 h2
  have hself := hlook 0 "self" (.ref x) rfl rfl
  have hmap : fs.map (fun y => (((("self" : Str) :: fs).zip (Value.ref x :: vs)).reverse).lookup y) = vs.map some := by
    refine List.ext_getElem (by simp [hlen]) fun i h1 h2 => ?_
    simp only [List.length_map] at h1 h2
    rw [List.getElem_map, List.getElem_map]
    exact hlook (i + 1) _ _ (by simp [List.getElem?_eq_getElem h1]) (by simp [List.getElem?_eq_getElem h2])
  have X₁ : K.In h₁ := fun a o e => hk₁ a o (X a o e)
  have hx₁ := hk₁ _ _ hx
  cases hbody with
  | @mk es b q0 q1 q2 q3 q4 hn hf he => ?_
  have hi : interactive (callEnv (PySem.W.ksFn "__init__" qual params (.Expr (.Call (.Attribute (.Call (.Name "super" q0) [] [] q1) "__init__" q2) es [] q3) q4 :: b) scope dV kV doc pm an (.ref cda) ct cc) h.objs.size fI) = false := by
    unfold PySem.interactive
    show (scope.kind == ScopeKind.module && _) = false
    rw [hk]
    rfl
  refine PySem.ks_wpAt_execs_cons (PySem.ks_wpAt_Expr_any (PySem.ks_wpAt_MethodCall ?_ (he _)) hi)
  refine PySem.ks_wpAt_super_base (fd := PySem.W.ksFn "__init__" qual params _ scope dV kV doc pm an (.ref cda) ct cc) lsup lcls (by decide) rfl (X₁ _ _ ho) rfl hpar rfl (X₁ _ _ hcda) rfl hws hfile htop ?_
  refine PySem.W.ks_loadName_global hk lsup (Calls.loadGlobal_builtin (ns_keep hg fun o e => hk₁ _ o e) T.nosup (ns_keep hb fun o e => hk₁ _ o e) hbs ⟨rfl, ?_⟩)
  refine wpAny_loadName_free hk lcls rfl ⟨_, X₁ _ _ hcc, rfl⟩ ?_
  rw [har]
  refine wpAny_loadName_local hk (lloc _ (List.mem_cons_self ..)).1 hns hself ?_
  have hC₁ := X₁ _ _ hC
  refine PySem.ks_wpAny_isType_cls hC₁ rfl ⟨rfl, ?_⟩
  refine PySem.ks_wpAny_call_super hC₁ rfl hx₁ rfl (fun c e => by cases e) (PySem.W.looks_mroIn X₁ T.slf) (fun h₂ hso k₂ => ?_)
  have X₂ : K.In h₂ := fun a o e => k₂ a o (X₁ a o e)
  have hx₂ := k₂ _ _ hx₁
  have I₂ : PySem.W.InstAt h₂ x (PySem.HandSPX.excO C t0) C none := ⟨hx₂, rfl, rfl, trivial⟩
  have hxC : x ≠ C := fun z => by rw [z, hC] at hnx; cases hnx
  refine PySem.W.kxs_getMethod PySem.W.kxs_ValueError hso (PySem.W.looks_opaque X₂ T.tp) (l₀ := .ref C :: bm) (fun A Q E s k q => wpAny_bind ((PySem.W.looks_clsIn X₂ hcl) A _ E s k (wpAny_pure q))) rfl X₂ ?_ (I₂.type.andThen (PySem.W.looks_subIn X₂ T.subV)) hxC (by decide) ?_
  · have e := T.sup
    unfold PySem.W.ks_superIn at e
    rw [hcl] at e
    exact e
  have hns₂ := ns_keep hns fun o e => k₂ _ o e
  have lL : ∀ f ∈ fs, (callEnv (PySem.W.ksFn "__init__" qual params (.Expr (.Call (.Attribute (.Call (.Name "super" q0) [] [] q1) "__init__" q2) es [] q3) q4 :: b) scope dV kV doc pm an (.ref cda) ct cc) h.objs.size fI).kindOf f = some .local ∧ (f == ("__debug__" : Str)) = false :=
    fun f hm => lloc f (List.mem_cons_of_mem _ hm)
  have up : ∀ b o, h₂.get? b = some o → (h₂.push (PySem.W.kxs_mw "ValueError.__init__" x)).get? b = some o := fun b o e => Heap.get?_push_of_some _ e
  refine PySem.W.kxs_callWith (i := "ValueError.__init__") (x := x) (nms_plain hn) ?_
  have hev : ∀ {Q : Args → Shared → Prop} {E : Value → Shared → Prop} {A : Around} {s : Shared}, s.heap.Ns h.objs.size (fun y => (((("self" : Str) :: fs).zip (Value.ref x :: vs)).reverse).lookup y) → Q ⟨vs, []⟩ s →
      wpAny (model prog w) A (evalArgs (.ref h₂.objs.size) true (backTo q3 (starEach es (callEnv (PySem.W.ksFn "__init__" qual params (.Expr (.Call (.Attribute (.Call (.Name "super" q0) [] [] q1) "__init__" q2) es [] q3) q4 :: b) scope dV kV doc pm an (.ref cda) ct cc) h.objs.size fI))) []) Q E s := by
    intro Q E A s hn' hq'
    have hsp := fun (Q' : List Value → Shared → Prop) (hQ : Q' vs s) => nms_spliced (M := model prog w) (A := A) (E := E) (pos := q3) (env := callEnv (PySem.W.ksFn "__init__" qual params (.Expr (.Call (.Attribute (.Call (.Name "super" q0) [] [] q1) "__init__" q2) es [] q3) q4 :: b) scope dV kV doc pm an (.ref cda) ct cc) h.objs.size fI) hk hn hn' lL hmap hQ
    cases hn with
    | nil => exact absurd rfl T.some_
    | cons r => exact Calls.evalArgs_plain (hsp _ hq')
  refine hev (ns_keep hns₂ fun o e => up _ o e) ⟨Heap.get?_push_at rfl rfl, ?_⟩
  refine mw_called (Heap.get?_push_at rfl rfl) (up _ _ (X₂ _ _ hC)) (up _ _ hx₂) (by rw [List.nil_append, hlen]; exact Nat.le_trans T.few (by rw [sizeLine_eq]; decide)) fun h₃ t1 k₃ hx₃ => ?_
  have X₃ : K.In h₃ := fun a o e => k₃ a o (fun z => by rw [z, hnx] at e; cases e) (up _ _ (X₂ a o e))
  have xL : h.objs.size ≠ x := Nat.ne_of_gt (Heap.lt_size hx)
  have hns₃ := ns_keep hns₂ fun o e => k₃ _ o xL (up _ o e)
  refine wpAt_of_wpAny ?_
  show wpAny _ _ (execs b _) _ _ _
  have old : ∀ b o, b ≠ x → h.get? b = some o → h₃.get? b = some o := fun b o hb e => k₃ b o hb (up _ _ (k₂ _ _ (hk₁ _ _ e)))
  have hsz : ∀ {y : Addr}, h₃.objs.size ≤ y → h.objs.size ≤ y ∧ y ≠ h.objs.size := fun {y} hy => by
    obtain ⟨oL, _, _, hL, _⟩ := hns₃
    have z : h.objs.size < h₃.objs.size := Heap.lt_size hL
    exact ⟨by omega, Ne.symm (Nat.ne_of_lt (Nat.lt_of_lt_of_le z hy))⟩
  have hbm' : PySem.HandSPX.refsVE (.ref C :: bm) = true := hbm
  have lself : (callEnv (PySem.W.ksFn "__init__" qual params (.Expr (.Call (.Attribute (.Call (.Name "super" q0) [] [] q1) "__init__" q2) es [] q3) q4 :: b) scope dV kV doc pm an (.ref cda) ct cc) h.objs.size fI).kindOf "self" = some .local := (lloc "self" (List.mem_cons_self ..)).1
  cases hf with
  | nil => exact absurd rfl T.some_
  | @cons f fs b p1 p2 p3 p4 r =>
    cases vs with
    | nil => simp at hlen
    | cons v vs =>
      simp only [List.map_cons, List.cons.injEq] at hmap
      obtain ⟨l2, l3⟩ := lL f (List.mem_cons_self ..)
      refine wpAny_execs_cons (plainObj_wpAny_Assign_Attribute (nm_load hns₃ hmap.1 hk l2 l3 (nm_load hns₃ hself hk lself (by decide) ?_)))
      refine PySem.W.set_plain X₃ (ox := PySem.HandSPX.excO C t1) (od := none) ⟨hx₃, rfl, rfl, trivial⟩ T.sa ?_
      refine PySem.HandSPX.exc_osa X₃ hx₃ hcl hbm' rfl (T.noF f (List.mem_cons_self ..)) (fun h₄ tk₄ dx k₄ dn dne hx₄ hn₄ => ?_)
      have hnd := (List.nodup_cons.mp T.nd).2
      have hnd' := List.nodup_cons.mp hnd
      obtain ⟨dn1, dn2⟩ := hsz dn
      have kd : K.lookup dx = none := by
        cases e : K.lookup dx with
        | none => rfl
        | some o => exact absurd (Heap.lt_size (X dx o e)) (Nat.not_lt.mpr dn1)
      have e0 : (fun y => if y = f then some v else none) = fun y => List.lookup y [(f, v)] := by
        have := look_snoc (f := f) (v := v) (l := []) (by simp)
        simpa using this
      rw [e0] at hn₄
      have few := T.few
      refine fds_rest (x := x) (C := C) hcl hbm' rfl T.sa (fun c z => by cases z) hk hself (Ne.symm dn2) lself r (fun a o e => k₄ a o (fun z => by rw [z, hnx] at e; cases e) (X₃ a o e)) (ns_keep hns₃ fun o e => k₄ _ o xL e)
        (fun f' hf' => ⟨T.noF f' (List.mem_cons_of_mem _ hf'), lL f' (List.mem_cons_of_mem _ hf')⟩) hmap.2 hx₄ hn₄ (fun f' hf' => ?_) hnd'.2 (by simp only [List.length_cons, List.length_nil] at few ⊢; omega) kd (Ne.symm dne) fun h₅ t₅ k₅ n₅ => ?_
      · simp only [List.map_cons, List.map_nil, List.mem_singleton]
        intro z; subst z; exact hnd'.1 hf'
      · refine hq h₅ t₅ dx t1 (fun b o hb e => k₅ b o (fun z => ?_) (k₄ b o hb (old b o hb e))) (k₅ _ _ (Ne.symm dne) hx₄) dn1 dne (by simpa using n₅)
        exact absurd (Heap.lt_size e) (Nat.not_lt.mpr (by rw [z]; exact dn1))
end
theorem relO_zip : ∀ {fs : List Str} {vs : List V} {us : List Value}, Vals vs us → ∀ f, RelO ((fs.zip vs).lookup f) ((fs.zip us).lookup f)
  | [], vs, us, h, f => by simp; trivial
  | a :: fs, [], us, h, f => by cases h; simp; trivial
  | a :: fs, v :: vs, us, h, f => by
    cases h with
    | @cons _ u _ us r1 r2 =>
      simp only [List.zip_cons_cons, List.lookup_cons]
      cases e : (f == a) with
      | true => exact r1
      | false => exact relO_zip r2 f
section
variable {X : Cx} {κ : Cp} {E : XK} {x : Str} {fs : List Str} {C fI : Addr} {k : Nat} {e : Expr} {es : List Expr} {ta : TA} {ts : AW} {p pos pos2 : Pos}
/-- x(e, ..), an error of our own -/
def tMkE (C : Addr) (fs : List Str) (ta : TA) : St → Hp → XK → Prop := fun σ H Q => ta σ H fun vs H1 => vs.length = fs.length ∧ ∀ d, H1 d = none → Q (.ref C) (some d) (upd H1 d (.xd (fs.zip vs)))
theorem pmk_err (T : ErrT X.prog X.K X.mg x fs C fI) (hr : Room (k + 1) X.A) (hg : Gl X x) (ha : PA X (e :: es) ta) (hdb : (x == ("__debug__" : Str)) = false := by decide)
    (he : starEach (e :: es) X.env = (false, eval e X.env) :: starEach es X.env := by rfl) (hpl : (backTo pos (starEach es X.env)).any (·.1) = false := by rfl) : PMk X (.Call (.Name x p) (e :: es) [] pos) (tMkE C fs ta) := by
  intro pins s σ H Q I h
  obtain ⟨nm, q, N, bs, bm, sn, sub, ab, col, dd, k0, k1, k2, k3, k5, hC, hbm⟩ := T.cls
  refine wpAny_Call_Name_kw (ld_glob I hg T.gC ?_ hdb)
  refine PySem.W.callWith_K (h₀ := X.base) I.ok.mod.kin T.kC (thn (ha.run pos pins s σ H _ I h) fun us s1 hh => ?_) he hpl
  obtain ⟨vs, H1, I1, r1, hl, q1⟩ := hh
  refine ⟨I1.kIn, ?_⟩
  have hul : us.length = fs.length := r1.length.symm.trans hl
  have hlim := I1.nolimit
  have X1 := I1.kIn
  have bk1 := I1.bk
  obtain ⟨mb, hb, hbt⟩ := I1.ok.mod.blt
  have hgl := I1.ok.mod.glob
  show wpAny _ _ (call (.ref C) us) _ _ _
  obtain ⟨hp, g, dr, tk, os⟩ := s1
  have up : ∀ b o, hp.get? b = some o → ((hp.push (PySem.W.kdv_tup us)).push (PySem.HandSPX.excO C hp.objs.size)).get? b = some o := fun b o z => Heap.get?_push_of_some _ (Heap.get?_push_of_some _ z)
  have hnx : X.K.lookup (hp.objs.size + 1) = none := by
    cases z : X.K.lookup (hp.objs.size + 1) with
    | none => rfl
    | some o => exact absurd (Heap.lt_size (X1 _ _ z)) (Nat.not_lt.mpr (Nat.le_succ _))
  refine wpAny_call (PySem.HandSPX.call_own F.excBase_ValueError (fun Y => PySem.HandSPX.refsVE_contains Y bm hbm) (X1 _ _ hC) (PySem.W.looks_findIn X1 T.iC) (fun self => PySem.W.bind_fn X1 self T.tI) (by rw [hul]; exact Nat.le_trans T.few (by rw [sizeLine_eq]; decide)) ?_)
  refine exc_init T (mb := mb) (fun a o z => up a o (X1 a o z)) (hlim.keeps up) (ns_keep hgl fun o z => up _ o (bk1 _ o z)) (ns_keep hb fun o z => up _ o (bk1 _ o z)) ((hbt _ (by decide)).trans (by decide +kernel)) (by heap_get) hnx ?_ hul fun h' tk' d t1 k' hx dn dne hns => ?_
  · exact (hr.make C us []).depth
  · refine ⟨rfl, ?_⟩
    show MkP X pins σ Q (.ref (hp.objs.size + 1)) ⟨h', g, dr, tk', os⟩
    have dn' : hp.objs.size + 1 + 1 ≤ d := by
      have q := dn
      rw [Heap.size_push, Heap.size_push] at q
      exact q
    have dbig : hp.objs.size ≤ d := by omega
    obtain ⟨G, g1, g2⟩ := restrict h' fun b => decide (b ≠ hp.objs.size + 1)
    have gk : ∀ b, b ≠ hp.objs.size + 1 → G.get? b = h'.get? b := fun b hb => g1 b (decide_eq_true hb)
    have ge : G.get? (hp.objs.size + 1) = none := g2 _ (by simp)
    have old : ∀ b o, hp.get? b = some o → G.get? b = some o := fun b o z => by
      have hb : b ≠ hp.objs.size + 1 := Nat.ne_of_lt (Nat.lt_succ_of_lt (Heap.lt_size z))
      exact (gk b hb).trans (k' b o hb (up b o z))
    have ob : ObjOk X.prog X.w (upd H1 d (.xd (fs.zip vs))) G d (.xd (fs.zip vs)) := ⟨_, hns.at (fun o z => (gk d dne).trans z), relO_zip r1⟩
    have J : Inv X pins σ (upd H1 d (.xd (fs.zip vs))) ⟨G, g, dr, tk', os⟩ := I1.laid (t' := tk') old dbig ob
    refine ⟨_, _, _, ⟨G, g, dr, tk', os⟩, _, .ref C, some d, rfl, J, fun b o z => ?_, ge, hx, ⟨rfl, rfl⟩, rfl, rfl, ?_, rfl, I1.bare, raises_own T.exC T.tyC, q1 d (I1.hok.fresh dbig)⟩
    · have z' : G.get? b = some o := z
      by_cases hb : b = hp.objs.size + 1
      · rw [hb, ge] at z'; cases z'
      · exact (gk b hb).symm.trans z'
    · rw [upd_ne (Ne.symm dne)]
      exact I1.hok.fresh (Nat.le_succ _)
/-- raise x(e, ..) -/
def sRaise (x : Str) (fs : List Str) (ts : AW) : SW := fun ρ => do let xs ← ts ρ; WP.need (xs.length = fs.length) (WP.raise ⟨x, fs, xs⟩)
theorem ds_raise (hc : X.calm = true) (tk : Takes X (wOf E)) (T : ErrT X.prog X.K X.mg x fs C fI) (hr : Room (k + 1) X.A) (hg : Gl X x) (ha : DA X κ (wOf E) (e :: es) ts) (hdb : (x == ("__debug__" : Str)) = false := by decide)
    (he : starEach (e :: es) X.env = (false, eval e X.env) :: starEach es X.env := by rfl) (hpl : (backTo pos (starEach es X.env)).any (·.1) = false := by rfl) :
    DS X κ E (.Raise (some (.Call (.Name x p) (e :: es) [] pos)) none pos2) (sRaise x fs ts) :=
  PS.imp (ps_raise hc tk (pmk_err T hr hg ha hdb he hpl)) fun D σ H ⟨I, ρ, b, w, h⟩ => ds_ofA w h fun ds b' v I' H' w' x1 r h' => by
    obtain ⟨hn, h'⟩ := h'
    refine ⟨r.len ▸ hn, fun d hd => ?_⟩
    have hi := w'.sr.sub.free hd
    refine h' (.ref C) (some d) (upd I' d (.xd (fs.zip v))) (upd H' d (.xd (fs.zip v))) (w'.sr.new hd) (w'.st.trans (.new w'.sr.sub hd)) ?_
    exact ⟨C, d, v, T.gC, rfl, rfl, upd_same, by rw [← r.len]; exact hn.symm, r.same (same_upd hi)⟩
end
end L2.NW
end
section
set_option Elab.async false
set_option autoImplicit false
set_option linter.all false
set_option maxRecDepth 100000
set_option maxHeartbeats 1000000
/-! NwQ: try, with several clauses that name the error. -/
namespace L2.NW
open PySem PySem.Spec PyProof.Rows
abbrev Su := Addr → Value → Option Addr → TS
/-- the ends behind a suite: the error's name is gone -/
def gone (i : Nat) (D : Ends) : Ends := { nx := fun τ G => D.nx (τ.set i none) G, rt := D.rt, bk := fun τ G => D.bk (τ.set i none) G, ct := fun τ G => D.ct (τ.set i none) G }
/-- what clauses wish of an error, in turn -/
def wMA (K : PySem.W.Frag) (i : Nat) (Wo : WX) (D : Ends) : List (Value × Su) → WX
  | [] => Wo
  | (c, ts) :: l => fun cls d τ G => ∃ b, PySem.W.exmOne K cls c = some b ∧ (b = true → ∀ er, G er = none → ts er cls d (gone i D) (τ.set i (some (.ref er))) G) ∧ (b = false → wMA K i Wo D l cls d τ G)
inductive ClOk (X : Cx) (n : Str) : List ExceptHandler → List (Value × Su) → Prop
  | nil : ClOk X n [] []
  | cons {x : Str} {c : Value} {ts : Su} {st : Stmt} {su : List Stmt} {p1 p2 : Pos} {hs : List ExceptHandler} {l : List (Value × Su)} (hc : Names X x c)
      (hsu : ∀ (er : Addr) (oe : Obj) (cls : Value) (d : Option Addr) (pn : List (Addr × Obj)), Zc cls d oe → (∃ fv, oe.data = .fields fv) → PSs (X.suite er ((er, oe) :: pn)) (st :: su) (ts er cls d)) (r : ClOk X n hs l) :
      ClOk X n (.ExceptHandler (some (.Name x p1)) (some n) (st :: su) p2 :: hs) ((c, ts) :: l)
theorem not_frame {h B : Heap} {envs : List Env} {er : Addr} {o : Obj} {fv : Array Value} (ff : h.FunFrames B envs) (e : h.get? er = some o) (dd : o.data = .fields fv) : er ∉ frs envs := fun hm => by
  obtain ⟨_, o2, e2, hnf⟩ := ff.mem hm
  rw [e] at e2
  cases e2
  exact hnf _ dd
section
variable {X : Cx} {n : Str} {i : Nat} {body : List Stmt} {c0 : ExceptHandler} {hds : List ExceptHandler} {l : List (Value × Su)} {pos : Pos} {tb : WX → TS} {Wo : WX}
theorem ps_tryA (hst : X.stack = X.env :: X.outer) (hfl : X.env.frame = some X.env.locals) (hN : X.N.Nodup) (hin : X.N[i]? = some n) (hln : X.env.kindOf n = some .local) (tk : Takes X Wo)
    (hb : ∀ (W : WX) (pn : List (Addr × Obj)) (xe : Value → Shared → Prop), Takes (X.tr pn xe) W → PassesOwn (model X.prog X.w) X.A X.env xe → PSs (X.tr pn xe) body (tb W))
    (hh : ClOk X n (c0 :: hds) l) : PS X (.Try body (c0 :: hds) [] [] pos) (fun D τ G => tb (wMA X.K i Wo D l) D τ G) := by
  refine ⟨fun pins s0 τ0 G0 D I0 h0 => ?_⟩
  have ok := I0.ok
  have hfr : X.A.frames = some (X.env :: X.outer) := by rw [ok.frames, hst]
  refine wpAny_Try_except (wpAny_mono ((hb (wMA X.K i Wo D l) (X.pn ++ pins) _ (fun u sC xx => ?_) PassesOwn.looking).run [] s0 τ0 G0 D (I0.toTry _) h0) (fun fl sE hE => ?_) fun _ _ z => z)
  · obtain ⟨er, B, sI, pinsC, τ, G, cls, d, rfl, IC, nb, up, sky, ner, hos, hbare, wish⟩ := xx
    have IJ : Inv X pins τ G sI := IC.ofTry ok
    have skyC : Sky B (X.env :: X.outer) er (Zc cls d) X.env.locals sC.heap := by rw [← hst]; exact sky
    show wpAny (model X.prog X.w) X.A (noteFrame (.ref er) X.env) _ _ _
    refine Sky.land Zc.steady hfr hfl skyC fun hL flL upL => ?_
    have IL : Inv X pins τ G { sC with heap := hL } := IJ.landed nb flL.1 (up.trans upL) hos hbare
    obtain ⟨oL, fvL, heL, hzL, hdL⟩ := flL.there
    have nFr := not_frame flL.2.2.1 heL hdL
    have nLoc : er ≠ X.env.locals := fun z => nFr (List.mem_filterMap.mpr ⟨X.env, List.mem_cons_self, by rw [hfl, z]⟩)
    have nFs : er ∉ X.fs := fun hm => by
      obtain ⟨ev, hev, q⟩ := List.mem_filterMap.mp hm
      exact nFr (List.mem_filterMap.mpr ⟨ev, List.mem_cons_of_mem _ hev, q⟩)
    have IS := IL.suite heL hdL ner nLoc nFs
    have LT : PySem.W.Looks (model X.prog X.w) hL (typeOf (.ref er)) cls := fun A Q E s k q => wpAny_typeOf_ref (k _ _ heL) (by rw [hzL.1]; exact q)
    have walk : ∀ {hs : List ExceptHandler} {m : List (Value × Su)}, ClOk X n hs m → wMA X.K i Wo D m cls d τ G → wpAny (model X.prog X.w) X.A (handleBy (.ref er) X.env hs) (SP X pins D) X.xe { sC with heap := hL } := by
      intro hs m hk
      induction hk with
      | nil =>
        intro wo
        refine wpAny_handleBy_nil ?_
        obtain ⟨_, _, _, oe, fv, T, oT, tv, he, hz, hd, h1, hr⟩ := id flL
        unfold PySem.passOn
        refine wpAny_bind (wpAny_field he hd h1 ?_)
        have nn : ¬ ((Value.ref T == Value.none) = true) := by simp
        rw [if_neg nn]
        have last : wpAny (model X.prog X.w) X.A (setFlight (.ref er) X.env.frame) (fun _ s4 => wpAny (model X.prog X.w) X.A (throw (.ref er) : Sem Flow) (SP X pins D) X.xe s4) X.xe { sC with heap := hL } := by
          rw [hfl]
          exact HandSPX.setFlight_upZ flL fun h4 hh4 up4 => wpAny_throw (tk _ _ ⟨er, B, sI, pins, τ, G, cls, d, rfl, IJ, nb, (up.trans upL).trans up4, .inr (.inr (by rw [hst]; exact hh4)), ner, hos, hbare, wo⟩)
        first
          | exact wpAny_bind last
          | exact wpAny_bind (wpAny_pure (wpAny_bind last))
      | @cons x c ts st su p1 p2 hs2 m2 hc hsu r ih =>
        intro wo
        obtain ⟨b, hb1, hy, hn⟩ := wo
        refine wpAny_handleBy_cons (codeAny_handlers_test ?_) (by intro q; cases q)
        have LM := PySem.W.exm_one (M := model X.prog X.w) IL.kIn LT hb1
        have tst : ∀ {Q : Value → Shared → Prop} {E : Value → Shared → Prop}, Q c { sC with heap := hL } → wpAny (model X.prog X.w) (X.A.mark (some (.ref er))) (eval (.Name x p1) X.env) Q E { sC with heap := hL } := fun {Q E} q => by
          obtain ⟨hg, hdbg, hm | ⟨hm, hv, hnn⟩⟩ := hc
          · exact ld_glob (X := X.suite er ((er, oL) :: (X.pn ++ pins))) IS hg hm q hdbg
          · exact ld_blt (X := X.suite er ((er, oL) :: (X.pn ++ pins))) IS hg hm hv q hnn hdbg
        refine tst (LM.here ?_)
        cases b with
        | false => exact ih (hn rfl)
        | true =>
          refine codeAny_handlers_suite_as (HandSPX.lands_againZ flL fun h4 fl4 up4 => ?_)
          have I4 : Inv X pins τ G { sC with heap := h4 } := IJ.landed nb fl4.1 ((up.trans upL).trans up4) hos hbare
          obtain ⟨o4, fv4, he4, hz4, hd4⟩ := fl4.there
          have S4 := I4.suite he4 hd4 ner nLoc nFs
          refine store_ok (X := X.suite er ((er, o4) :: (X.pn ++ pins))) (v := .ref er) S4 hN hin (.inl hln) rfl (fun s5 S5 => ?_) (.inr hln)
          refine wpAny_mono ((hsu er o4 cls d (X.pn ++ pins) hz4 ⟨_, hd4⟩).run [] s5 _ G _ S5 (hy rfl er ner)) (fun f s6 hsp => ?_) (fun _ _ z => False.elim z)
          have fin : ∀ {τ6 : St} {G6 : Hp} {Q : Shared → Prop}, Inv (X.suite er ((er, o4) :: (X.pn ++ pins))) [] τ6 G6 s6 → (∀ s7, Inv X pins (τ6.set i none) G6 s7 → Q s7) →
              wpAny (model X.prog X.w) X.A (do bindName X.env n .none; unbindBehindTheSuite X.env n p2) (fun _ s7 => Q s7) X.xe s6 := fun {τ6 G6 Q} S6 hq => gone_ok (S6.unsuite ok) hN hin hln hq
          cases f with
          | ret u =>
            obtain ⟨v6, τ6, G6, S6, r6, q6⟩ := hsp
            exact fin S6 fun s7 J7 => ⟨v6, _, G6, J7, r6, q6⟩
          | next =>
            obtain ⟨τ6, G6, S6, q6⟩ := hsp
            exact fin S6 fun s7 J7 => ⟨_, G6, J7, q6⟩
          | brk =>
            obtain ⟨τ6, G6, S6, q6⟩ := hsp
            exact fin S6 fun s7 J7 => ⟨_, G6, J7, q6⟩
          | cont =>
            obtain ⟨τ6, G6, S6, q6⟩ := hsp
            exact fin S6 fun s7 J7 => ⟨_, G6, J7, q6⟩
    exact walk hh wish
  · cases fl with
    | ret u =>
      obtain ⟨v, τ, G, J, r, q⟩ := hE
      exact ⟨v, τ, G, J.ofTry ok, r, q⟩
    | next =>
      obtain ⟨τ, G, J, q⟩ := hE
      exact wpAny_execs_nil ⟨τ, G, J.ofTry ok, q⟩
    | brk =>
      obtain ⟨τ, G, J, q⟩ := hE
      exact ⟨τ, G, J.ofTry ok, q⟩
    | cont =>
      obtain ⟨τ, G, J, q⟩ := hE
      exact ⟨τ, G, J.ofTry ok, q⟩
end
end L2.NW
end
section
set_option Elab.async false
set_option autoImplicit false
set_option linter.all false
set_option maxRecDepth 100000
set_option maxHeartbeats 1000000
/-! NwR: a lambda handed to a def that tells which error it raised. -/
namespace L2.NW
open PySem PySem.Spec PyProof.Rows
/-! ### clauses: except c as n: return (tag, n.f, ..) -/
structure Cs where
  c : Str
  tag : Str
  fs : List Str
def WP.tryc {α : Type} (m : WP α) (h : Ex → WP α) : WP α := ⟨fun b Q E => m.run b Q (fun x b' => (h x).run b' Q E), fun hm hq he => m.mono hm hq fun _ _ z => (h _).mono z hq he⟩
@[simp] theorem WP.run_tryc {α : Type} (m : WP α) (h : Ex → WP α) (b Q E) : (WP.tryc m h).run b Q E = m.run b Q (fun x b' => (h x).run b' Q E) := rfl

/-! ### the def that tells -/
/-- what the written part says of the classes that the clauses name -/
structure CsOk (K : PySem.W.Frag) (mg : Str → Option Value) (F : Str → Str → Option Bool) (k : Cs) : Prop where
  ex : ∃ C, mg k.c = some (.ref C) ∧ XfC K C ∧ (∀ f ∈ k.fs, PySem.W.findIn K (.ref C) f = some none)
  nd : (k.c == ("__debug__" : Str)) = false
/-- F is right -/
def FOk (K : PySem.W.Frag) (mg : Str → Option Value) (F : Str → Str → Option Bool) : Prop := ∀ x c b C D, F x c = some b → mg x = some (.ref C) → mg c = some (.ref D) → PySem.W.exmOne K (.ref C) (.ref D) = some b ∧ (b = true → C = D)
end L2.NW
end
section
set_option Elab.async false
set_option autoImplicit false
set_option linter.all false
set_option maxRecDepth 100000
set_option maxHeartbeats 1000000
/-! NwS: a def that calls what it got and tells the error, called with a lambda. -/
namespace L2.NW
open PySem PySem.Spec PyProof.Rows
/-- I behind a lambda's making -/
noncomputable def moreI (I H H1 : Hp) : Hp := fun b => open Classical in match I b with
  | some o => some o
  | none => if Nt H b then none else if ∃ q, H1 b = some (LamX.CodeO b q) then H1 b else none
theorem moreI_some {I H H1 : Hp} {b : Addr} {o : HO} (h : I b = some o) : moreI I H H1 b = some o := by simp [moreI, h]
theorem moreI_nt {I H H1 : Hp} {b : Addr} (h : I b = none) (n : Nt H b) : moreI I H H1 b = none := by simp [moreI, h, n]
theorem moreI_inv {I H H1 : Hp} {b : Addr} {o : HO} (h : moreI I H H1 b = some o) : I b = some o ∨ (I b = none ∧ ¬ Nt H b ∧ H1 b = some o ∧ ∃ q, o = LamX.CodeO b q) := by
  unfold moreI at h
  split at h
  · rename_i o' e; exact .inl (e.trans h)
  · rename_i e
    split at h
    · cases h
    · rename_i n
      split at h
      · rename_i c
        obtain ⟨q, c⟩ := c
        refine .inr ⟨e, n, h, q, ?_⟩
        rw [c] at h
        exact (Option.some.inj h).symm
      · cases h
theorem SR.lam {S : Sx} {I H H1 : Hp} {b : Nat} (s : SR S I H b) (e : LamX.ExtN H H1) (t : NdefX.TabsN S.p.T H1) : Stp S I H (moreI I H H1) H1 ∧ SR S (moreI I H H1) H1 b := by
  have keep : ∀ {c : Addr} {o : HO}, H c = some o → ¬ isTbl o → H1 c = some o := fun {c o} h n => e c o h fun ps z => n (by rw [z]; trivial)
  have ni : ∀ {c : Addr} {o : HO}, I c = some o → ¬ isTbl o := fun {c o} h n => by
    cases o <;> first | exact n.elim | exact s.nt c _ h
  have ii : Same I (moreI I H H1) := fun c o h => moreI_some h
  have nt2 : ∀ {c : Addr}, Nt H c → Nt H1 c := fun {c} ⟨u, h1, h2⟩ => ⟨u, keep h1 h2, h2⟩
  obtain ⟨ca, q, e1, e2, ok⟩ := s.pen
  refine ⟨⟨ii, fun c o h _ n => keep h n, fun c n z => moreI_nt z n, fun c n => nt2 n⟩, ⟨fun c o h => ?_, moreI_nt s.pn ⟨_, e1, id⟩, ⟨ca, q, keep e1 id, moreI_some e2, ok⟩, t, fun c ps h => ?_, fun c q h => ?_, fun c o h => moreI_some (s.ci c o h)⟩⟩
  · rcases moreI_inv h with h | ⟨_, _, h, _⟩
    · exact keep (s.sub c o h) (ni h)
    · exact h
  · rcases moreI_inv h with h | ⟨_, _, _, q, h⟩
    · exact s.nt c ps h
    · unfold LamX.CodeO at h; cases h
  · cases z : I c with
    | some o =>
      have h2 := keep (s.sub c o z) (ni z)
      rw [h2] at h
      cases h
      exact moreI_some z
    | none =>
      by_cases n : Nt H c
      · obtain ⟨u, h1, h2⟩ := n
        have h3 := keep h1 h2
        rw [h3] at h
        cases h
        rw [s.cd c q h1] at z
        cases z
      · have : moreI I H H1 c = H1 c := by
          unfold moreI
          rw [z]
          simp only [n, if_false]
          exact if_pos ⟨q, h⟩
        rw [this]; exact h
end L2.NW
end
section
set_option Elab.async false
set_option autoImplicit false
set_option linter.all false
set_option maxRecDepth 100000
set_option maxHeartbeats 1000000
/-! NwT: the pen. -/
namespace L2.NW
open PySem PySem.Spec PyProof.Rows
/-- any number below n, one draw less -/
def drawD (n : Int) : WP D := ⟨fun b Q _ => (0 < n ∧ n < 1073741824) ∧ ∃ b', b = b' + 1 ∧ ∀ d : Int, 0 ≤ d → d < n → Q (.int d) b', fun ⟨h, b', e, k⟩ hq _ => ⟨h, b', e, fun d h1 h2 => hq _ _ (k d h1 h2)⟩⟩
@[simp] theorem run_drawD (n : Int) (b Q E) : (drawD n).run b Q E = ((0 < n ∧ n < 1073741824) ∧ ∃ b', b = b' + 1 ∧ ∀ d : Int, 0 ≤ d → d < n → Q (.int d) b') := rfl
def drawM : Mir := fun ds => match ds with
  | [.pen, .int n] => drawD n
  | _ => WP.bad

def GP (H : Hp) (p ca : Addr) (q : Pen) : Hp := upd H p (.dK (penKvs ca q))
theorem gp_self {H : Hp} {p ca : Addr} {q : Pen} (h : H p = some (.dK (penKvs ca q))) : H = GP H p ca q := by
  funext a
  unfold GP
  by_cases e : a = p
  · rw [e, upd_same, h]
  · rw [upd_ne e]
theorem gp_upd {H : Hp} {p ca : Addr} {q q' : Pen} : upd (GP H p ca q) p (.dK (penKvs ca q')) = GP H p ca q' := by
  funext a
  unfold GP
  by_cases e : a = p
  · rw [e, upd_same, upd_same]
  · rw [upd_ne e, upd_ne e, upd_ne e]
section
variable {H : Hp} {p ca : Addr} {q : Pen}
theorem get_C : DGet (GP H p ca q) p (.str "cells") (some (.ref ca)) := by
  have h := DGet.k (H := GP H p ca q) (a := p) (k := kC) (kvs := penKvs ca q) upd_same
  have e : valV (penKvs ca q) kC = some (.ref ca) := by unfold valV penKvs; rfl
  rw [e] at h; exact h
theorem get_A : DGet (GP H p ca q) p (.str "at") (some (.int q.at_)) := by
  have h := DGet.k (H := GP H p ca q) (a := p) (k := kA) (kvs := penKvs ca q) upd_same
  have e : valV (penKvs ca q) kA = some (.int q.at_) := by
    unfold penKvs
    rw [valV_neg (show ¬ kC = kA by decide +kernel), valV_pos rfl]
  rw [e] at h; exact h
theorem get_D : DGet (GP H p ca q) p (.str "digits") (some (.int q.digits)) := by
  have h := DGet.k (H := GP H p ca q) (a := p) (k := kD) (kvs := penKvs ca q) upd_same
  have e : valV (penKvs ca q) kD = some (.int q.digits) := by
    unfold penKvs
    rw [valV_neg (show ¬ kC = kD by decide +kernel), valV_neg (show ¬ kA = kD by decide +kernel), valV_pos rfl]
  rw [e] at h; exact h
theorem get_N : DGet (GP H p ca q) p (.str "count") (some (.int q.count)) := by
  have h := DGet.k (H := GP H p ca q) (a := p) (k := kN) (kvs := penKvs ca q) upd_same
  have e : valV (penKvs ca q) kN = some (.int q.count) := by
    unfold penKvs
    rw [valV_neg (show ¬ kC = kN by decide +kernel), valV_neg (show ¬ kA = kN by decide +kernel), valV_neg (show ¬ kD = kN by decide +kernel), valV_pos rfl]
  rw [e] at h; exact h
theorem get_B : DGet (GP H p ca q) p (.str "blend") (some (.int q.blend)) := by
  have h := DGet.k (H := GP H p ca q) (a := p) (k := kB) (kvs := penKvs ca q) upd_same
  have e : valV (penKvs ca q) kB = some (.int q.blend) := by
    unfold penKvs
    rw [valV_neg (show ¬ kC = kB by decide +kernel), valV_neg (show ¬ kA = kB by decide +kernel), valV_neg (show ¬ kD = kB by decide +kernel), valV_neg (show ¬ kN = kB by decide +kernel), valV_pos rfl]
  rw [e] at h; exact h
theorem five : (penKvs ca q).length < sizeLine := by
  show 5 < sizeLine
  rw [sizeLine_eq]; decide
theorem put_ {k : Key} {v : V} {q' : Pen} (e : putK (penKvs ca q) k v = penKvs ca q') : DPut (GP H p ca q) p (kV k) v (GP H p ca q') := by
  have h := DPut.k (H := GP H p ca q) (a := p) (k := k) (kvs := penKvs ca q) (v := v) upd_same five
  rw [e, gp_upd] at h; exact h
theorem ne1 : ¬ kC = kA := by decide +kernel
theorem ne2 : ¬ kC = kD := by decide +kernel
theorem ne3 : ¬ kC = kN := by decide +kernel
theorem ne4 : ¬ kC = kB := by decide +kernel
theorem ne5 : ¬ kA = kD := by decide +kernel
theorem ne6 : ¬ kA = kN := by decide +kernel
theorem ne7 : ¬ kA = kB := by decide +kernel
theorem ne8 : ¬ kD = kN := by decide +kernel
theorem ne9 : ¬ kD = kB := by decide +kernel
theorem ne0 : ¬ kN = kB := by decide +kernel
theorem put_A (n : Nat) : DPut (GP H p ca q) p (.str "at") (.int n) (GP H p ca { q with at_ := n }) :=
  put_ (k := kA) (by simp [putK, penKvs, ne1, Ne.symm ne1, ne5, Ne.symm ne5, ne6, Ne.symm ne6, ne7, Ne.symm ne7])
theorem put_D (z : Int) : DPut (GP H p ca q) p (.str "digits") (.int z) (GP H p ca { q with digits := z }) :=
  put_ (k := kD) (by simp [putK, penKvs, ne2, ne5, Ne.symm ne5, ne8, Ne.symm ne8, ne9, Ne.symm ne9])
theorem put_N (z : Int) : DPut (GP H p ca q) p (.str "count") (.int z) (GP H p ca { q with count := z }) :=
  put_ (k := kN) (by simp [putK, penKvs, ne3, ne6, Ne.symm ne6, ne8, Ne.symm ne8, ne0, Ne.symm ne0])
theorem put_B (z : Int) : DPut (GP H p ca q) p (.str "blend") (.int z) (GP H p ca { q with blend := z }) :=
  put_ (k := kB) (by simp [putK, penKvs, ne4, ne7, ne9, ne0, Ne.symm ne0])
end
end L2.NW
end
section
set_option Elab.async false
set_option autoImplicit false
set_option linter.all false
set_option maxRecDepth 100000
set_option maxHeartbeats 1000000
/-! NwU: a draw. -/
namespace L2.NW
open PySem PySem.Spec PyProof.Rows
theorem ift {c : Bool} {A B : Prop} (hc : c = true) (h : A) : if c = true then A else B := by subst hc; exact iteT h
theorem iff_ {c : Bool} {A B : Prop} (hc : c = false) (h : B) : if c = true then A else B := by subst hc; exact iteF h
def tg (k : Str) : TE := tDGet (tVar 0) (tC (.str k))
def tpt (k : Str) (te : TE) : TS := sDPut (tVar 0) (tC (.str k)) te
abbrev ci (i : Int) : TE := tC (.int i)
abbrev qAdd : R2 := rI0 fun i j => .int (i + j)
abbrev qSub : R2 := rI0 fun i j => .int (i - j)
abbrev qMul : R2 := rI CMul fun i j => .int (i * j)
abbrev qMod : R2 := rI (fun _ j => 0 < j) fun i j => .int (i % j)
abbrev qDiv : R2 := rI CDiv fun i j => .int (i / j)
abbrev qPow : R2 := rI CPow fun i j => .int (i ^ j.toNat)
abbrev qLt : R2 := rI0 fun i j => .bl (decide (i < j))
abbrev qGt : R2 := rI0 fun i j => .bl (decide (j < i))
abbrev qGe : R2 := rI0 fun i j => .bl (decide (j ≤ i))
abbrev tInt (te : TE) : TE := tCB rInt1 (tCons te tNil)
def t_draw (K : PySem.W.Frag) : TS :=
  tSeq (tpt "count" (tOp qAdd (tg "count") (ci 1)))
    (tSeq (tIfS (tAnd (tTest (tOp rEq (tg "digits") (ci 0))) (tTest (tOp qLt (tg "at") (tCB (rLen K) (tCons (tg "cells") tNil)))))
      (tSeq (tAsg (tOp (rIxL K) (tg "cells") (tg "at")) (gName 2))
        (tSeq (tpt "at" (tOp qAdd (tg "at") (ci 1)))
          (tIfS (tTest (tOp qGe (tVar 2) (tOp qPow (ci 10) (ci 18)))) (tpt "digits" (tOp qSub (tVar 2) (tOp qPow (ci 10) (ci 18))))
            (tpt "blend" (tOp qMod (tInt (tOp qAdd (tOp qMul (tg "blend") (ci 69069)) (tVar 2))) (ci 2147483587)))))) tNext)
      (tSeq (tIfS (tTest (tOp qGt (tg "digits") (ci 0)))
        (tSeq (tAsg (tOp qMod (tInt (tg "digits")) (tVar 1)) (gName 3)) (tSeq (tpt "digits" (tOp qDiv (tg "digits") (tVar 1))) (tRet (tVar 3)))) tNext)
        (tSeq (tAsg (tOp qAdd (tOp qAdd (tg "blend") (tOp qMul (tg "count") (ci 7907))) (ci 41)) (gName 4))
          (tRet (tOp qMod (tOp qDiv (tInt (tOp qMod (tOp qPow (tVar 4) (ci 17)) (ci 2305843009213693951))) (ci 128)) (tVar 1))))))
theorem pen_step {S : Sx} {I H : Hp} {b b' : Nat} {ca : Addr} {q q' : Pen} (sr : SR S I H b) (h1 : H S.p.a = some (.dK (penKvs ca q))) (h2 : I ca = some (.lst (q.cells.map V.int))) (hc : q'.cells = q.cells) (ok : q'.Ok b') : Stp S I H I (GP H S.p.a ca q') ∧ SR S I (GP H S.p.a ca q') b' := by
  refine ⟨⟨fun _ _ z => z, fun a o e n _ => by unfold GP; rw [upd_ne n]; exact e, fun _ _ z => z, fun a n => ?_⟩, ⟨fun c u e => ?_, sr.pn, ⟨ca, q', upd_same, by rw [hc]; exact h2, ok⟩, ?_, sr.nt, fun c r e => ?_, sr.ci⟩⟩
  · unfold GP
    by_cases e : a = S.p.a
    · rw [e]; exact ⟨_, upd_same, id⟩
    · obtain ⟨u, e1, e2⟩ := n
      exact ⟨u, by rw [upd_ne e]; exact e1, e2⟩
  · unfold GP
    rw [upd_ne (ne_of_none e sr.pn)]; exact sr.sub c u e
  · exact tabs_upd sr.tb fun u z => by rw [h1] at z; cases z; exact plain_dK
  · unfold GP at e
    by_cases z : c = S.p.a
    · rw [z, upd_same] at e
      exact absurd (Option.some.inj e) (plain_dK.2 _ _)
    · rw [upd_ne z] at e; exact sr.cd c r e
abbrev nDraw : List Str := ["pen", "many", "cell", "digit", "mixed"]
section
variable {K : PySem.W.Frag} {H : Hp} {p ca : Addr} {D : Ends}
/-- the last part: no digits are left -/
theorem draw_end {q : Pen} {n : Int} {x3 x4 : Option V} {x2 : Option V} (hn : 0 < n) (hb0 : 0 ≤ q.blend) (hb1 : q.blend < 2147483587) (hc0 : 0 ≤ q.count) (hc1 : q.count ≤ 1000000000000) (k : ∀ d : Int, 0 ≤ d → d < n → D.rt (.int d) (GP H p ca q)) :
    (tSeq (tAsg (tOp qAdd (tOp qAdd (tg "blend") (tOp qMul (tg "count") (ci 7907))) (ci 41)) (gName 4))
          (tRet (tOp qMod (tOp qDiv (tInt (tOp qMod (tOp qPow (tVar 4) (ci 17)) (ci 2305843009213693951))) (ci 128)) (tVar 1)))) D [some (.ref p), some (.int n), x2, x3, x4] (GP H p ca q) := by
  refine ⟨_, rfl, p, _, rfl, get_B, _, rfl, p, _, rfl, get_N, _, _, rfl, rfl, .inr ⟨by decide, by decide⟩, _, _, rfl, rfl, _, _, rfl, rfl, ?_⟩
  refine ⟨_, rfl, _, _, rfl, rfl, ⟨by decide, by decide, ?_⟩, _, _, rfl, rfl, (show (0 : Int) < 2305843009213693951 by decide), .inl ⟨_, rfl, _, _, rfl, rfl, ⟨by decide, by decide⟩, _, rfl, _, _, rfl, rfl, hn, ?_⟩⟩
  · have : (q.blend + q.count * 7907 + 41).natAbs < 2 ^ 64 := by omega
    exact this
  · exact k _ (Int.emod_nonneg _ (by omega)) (Int.emod_lt_of_pos _ hn)
/-- the part behind the blending -/
theorem draw_mid {q : Pen} {n : Int} {x2 x3 x4 : Option V} (hn : 0 < n) (hn2 : n < 1073741824) (hd : 0 ≤ q.digits) (hb0 : 0 ≤ q.blend) (hb1 : q.blend < 2147483587) (hc0 : 0 ≤ q.count) (hc1 : q.count ≤ 1000000000000)
    (k : ∀ (d : Int) (z : Int), 0 ≤ d → d < n → 0 ≤ z → D.rt (.int d) (GP H p ca { q with digits := z })) :
    (tSeq (tIfS (tTest (tOp qGt (tg "digits") (ci 0)))
        (tSeq (tAsg (tOp qMod (tInt (tg "digits")) (tVar 1)) (gName 3)) (tSeq (tpt "digits" (tOp qDiv (tg "digits") (tVar 1))) (tRet (tVar 3)))) tNext)
        (tSeq (tAsg (tOp qAdd (tOp qAdd (tg "blend") (tOp qMul (tg "count") (ci 7907))) (ci 41)) (gName 4))
          (tRet (tOp qMod (tOp qDiv (tInt (tOp qMod (tOp qPow (tVar 4) (ci 17)) (ci 2305843009213693951))) (ci 128)) (tVar 1))))) D [some (.ref p), some (.int n), x2, x3, x4] (GP H p ca q) := by
  refine ⟨_, rfl, p, _, rfl, get_D, _, _, rfl, rfl, _, rfl, ?_⟩
  by_cases c : (0 : Int) < q.digits
  · refine ift (decide_eq_true c) ?_
    refine ⟨_, rfl, p, _, rfl, get_D, .inl ⟨_, rfl, _, rfl, _, _, rfl, rfl, hn, ?_⟩⟩
    refine ⟨_, rfl, p, _, rfl, get_D, _, rfl, _, _, rfl, rfl, ⟨hn, hn2⟩, _, rfl, p, _, rfl, put_D _, _, rfl, ?_⟩
    exact k _ _ (Int.emod_nonneg _ (by omega)) (Int.emod_lt_of_pos _ hn) (Int.ediv_nonneg hd (by omega))
  · refine iff_ (decide_eq_false c) ?_
    exact draw_end hn hb0 hb1 hc0 hc1 fun d h1 h2 => k d q.digits h1 h2 hd
theorem draw_all {q : Pen} {n : Int} (hn : 0 < n) (hn2 : n < 1073741824) (hs : SqL K (GP H p ca q) ca (q.cells.map V.int)) (hca : ca ≠ p) (hl : q.cells.length ≤ 63) (hd : 0 ≤ q.digits) (hb0 : 0 ≤ q.blend) (hb1 : q.blend < 2147483587) (hc0 : 0 ≤ q.count) (hc1 : q.count + 1 ≤ 1000000000000)
    (k : ∀ (d : Int) (q' : Pen), 0 ≤ d → d < n → q'.cells = q.cells → q'.count = q.count + 1 → 0 ≤ q'.digits → 0 ≤ q'.blend → q'.blend < 2147483587 → D.rt (.int d) (GP H p ca q')) :
    t_draw K D [some (.ref p), some (.int n), none, none, none] (GP H p ca q) := by
  have hsq : ∀ q' : Pen, SqL K (GP H p ca q') ca (q.cells.map V.int) := fun q' => by
    rcases hs with h | h
    · refine .inl ?_
      have e : ∀ r : Pen, (GP H p ca r) ca = H ca := fun r => by unfold GP; rw [upd_ne hca]
      rcases h with h | ⟨o, h⟩
      · exact .inl (by rw [e]; rw [e] at h; exact h)
      · exact .inr ⟨o, by rw [e]; rw [e] at h; exact h⟩
    · exact .inr h
  refine ⟨_, rfl, p, _, rfl, get_N, _, _, rfl, rfl, _, rfl, p, _, rfl, put_N _, ?_⟩
  refine ⟨_, rfl, p, _, rfl, get_D, by rfl, _, rfl, ?_⟩
  by_cases c : q.digits = 0
  · refine ift (by show decide (V.int q.digits = V.int 0) = true; rw [c]; exact decide_eq_true rfl) ?_
    refine ⟨_, rfl, p, _, rfl, get_A, _, rfl, p, _, rfl, get_C, ca, _, rfl, .inl (hsq _), _, _, rfl, rfl, _, rfl, ?_⟩
    by_cases c2 : (q.at_ : Int) < ((q.cells.map V.int).length : Nat)
    · refine ift (decide_eq_true c2) ?_
      have hat : q.at_ < q.cells.length := by rw [List.length_map] at c2; omega
      have hcell : atI (q.cells.map V.int) (q.at_ : Int) = some (.int q.cells[q.at_]) := atI_nat (by rw [List.getElem?_map, List.getElem?_eq_getElem hat]; rfl)
      refine ⟨_, rfl, p, _, rfl, get_C, _, rfl, p, _, rfl, get_A, ca, _, _, _, rfl, rfl, hsq _, hcell, ?_⟩
      refine ⟨_, rfl, p, _, rfl, get_A, _, _, rfl, rfl, _, rfl, p, _, rfl, put_A (q.at_ + 1), ?_⟩
      refine ⟨_, rfl, _, _, rfl, rfl, ⟨by decide, by decide, by decide⟩, _, _, rfl, rfl, _, rfl, ?_⟩
      by_cases c3 : (10 : Int) ^ (18 : Int).toNat ≤ q.cells[q.at_]
      · refine ift (decide_eq_true c3) ?_
        refine ⟨_, rfl, _, _, rfl, rfl, ⟨by decide, by decide, by decide⟩, _, _, rfl, rfl, _, rfl, p, _, rfl, put_D _, ?_⟩
        exact draw_mid hn hn2 (by show 0 ≤ q.cells[q.at_] - 10 ^ (18 : Int).toNat; omega) hb0 hb1 (by show 0 ≤ q.count + 1; omega) hc1 fun d z h1 h2 h3 => k d _ h1 h2 rfl rfl h3 hb0 hb1
      · refine iff_ (decide_eq_false c3) ?_
        refine ⟨_, rfl, p, _, rfl, get_B, _, _, rfl, rfl, .inr ⟨by decide, by decide⟩, _, rfl, _, _, rfl, rfl, .inl ⟨_, rfl, _, _, rfl, rfl, (show (0 : Int) < 2147483587 by decide), _, rfl, p, _, rfl, put_B _, ?_⟩⟩
        have m0 := Int.emod_nonneg (q.blend * 69069 + q.cells[q.at_]) (show (2147483587 : Int) ≠ 0 by decide)
        have m1 := Int.emod_lt_of_pos (q.blend * 69069 + q.cells[q.at_]) (show (0 : Int) < 2147483587 by decide)
        exact draw_mid hn hn2 hd m0 m1 (by show 0 ≤ q.count + 1; omega) hc1 fun d z h1 h2 h3 => k d _ h1 h2 rfl rfl h3 m0 m1
    · refine iff_ (decide_eq_false c2) ?_
      exact draw_mid hn hn2 hd hb0 hb1 (by show 0 ≤ q.count + 1; omega) hc1 fun d z h1 h2 h3 => k d _ h1 h2 rfl rfl h3 hb0 hb1
  · refine iff_ (by show decide (V.int q.digits = V.int 0) = false; exact decide_eq_false fun z => c (V.int.inj z)) ?_
    refine iff_ rfl ?_
    exact draw_mid hn hn2 hd hb0 hb1 (by show 0 ≤ q.count + 1; omega) hc1 fun d z h1 h2 h3 => k d _ h1 h2 rfl rfl h3 hb0 hb1
end
theorem pure_draw {S : Sx} {vs : List V} {H : Hp} {Q : VK} {E : XK} (h : spD S drawM vs H Q E) : t_draw S.K { nx := fun _ H' => Q .non H', rt := Q } (L2.start nDraw vs) H := by
  obtain ⟨I, b, ds, sr, r, h⟩ := h
  unfold drawM at h
  split at h
  · rename_i n
    obtain ⟨⟨hn, hn2⟩, b', rfl, k⟩ := h
    simp only [Rps, Rp] at r
    obtain ⟨_, _, rfl, rfl, _, _, rfl, rfl, rfl⟩ := r
    obtain ⟨ca, q, e1, e2, ok⟩ := id sr.pen
    have hca : ca ≠ S.p.a := fun z => by rw [z, sr.pn] at e2; cases e2
    have eH := gp_self e1
    have hs : SqL S.K H ca (q.cells.map V.int) := SqL.of (sr.sub _ _ e2)
    have cb := ok.cb
    have key : ∀ H', H' = GP H S.p.a ca q → t_draw S.K { nx := fun _ H' => Q .non H', rt := Q } (L2.start nDraw [.ref S.p.a, .int n]) H' := by
      rintro _ rfl
      rw [eH] at hs
      refine draw_all hn hn2 hs hca ok.len ok.dg ok.b0 ok.b1 ok.ct (by omega) fun d q' h1 h2 h3 h4 h5 h6 h7 => ?_
      obtain ⟨x, s⟩ := pen_step (q' := q') (b' := b') sr e1 e2 h3 ⟨by rw [h3]; exact ok.len, h5, by have := ok.ct; omega, by omega, h6, h7⟩
      exact k d h1 h2 _ _ _ x s (by simp [Rp])
    exact key H eH
  · exact h.elim
/-! ### the two defs, and the law's own copy of the script -/
section
variable {P : Program} {w : World} {K : PySem.W.Frag} {mg : Str → Option Value} {base : Heap} {p : Pt} {f : Addr} {fd : FuncData} {st : Stmt} {k : Nat}
theorem cal_draw (hm : mg "_law_draw" = some (.ref f)) (F : Fun K "_law_draw" "_law_draw" st f fd) (S : FnScope nDraw ["pen", "many"] (defScope st)) (hb : Binds K fd ["pen", "many"] [])
    (body : ∀ (cdv : Value) (A : Around) (outer : List Env) (s : Shared) (H : Hp) (E : XK), Room k (A.deeper (envOfC "_law_draw" (defScope st) s.heap.objs.size f cdv)) →
      PSs (cxOf (L2.CX P w) P w K mg base nDraw "_law_draw" (defScope st) f cdv A outer s H E) (defBody st) (t_draw K)) : Cal P w K mg base p (k + 1) "_law_draw" 2 drawM := by
  refine ⟨f, fd, ["pen", "many"], hm, F.kp, hb, rfl, F.okX S (fun vs H Q E h => h.1) fun cdv A outer s H vs Q E hr h => ?_⟩
  obtain ⟨hl, h⟩ := h
  have hp := pure_draw (S := ⟨K, mg, p, w⟩) h
  exact ⟨t_draw K, body cdv A outer s H E hr, hp⟩
end
end L2.NW
end
section
set_option Elab.async false
set_option autoImplicit false
set_option linter.all false
set_option maxRecDepth 100000
set_option maxHeartbeats 1000000
/-! NwV: the pen is made. -/
namespace L2.NW
open PySem PySem.Spec PyProof.Rows
abbrev nPen : List Str := ["script", "blend", "cell"]
def rLst (K : PySem.W.Frag) : List V → Hp → VK → Prop := fun xs H Q => ∃ p ys, xs = [.ref p] ∧ (SqL K H p ys ∨ SqT K H p ys) ∧ ∀ l, H l = none → Q (.ref l) (upd H l (.lst ys))
def t_pen (K : PySem.W.Frag) : TS :=
  tSeq (tAsg (ci 0) (gName 1)) (tSeq (tFor (iList K (tVar 0)) (gName 2) (tAsg (tOp qMod (tInt (tOp qAdd (tOp qMul (tVar 1) (ci 31)) (tVar 2))) (ci 1000000007)) (gName 1)))
    (tRet (tDisp [(tC (.str "cells"), tCB (rLst K) (tCons (tVar 0) tNil)), (tC (.str "at"), ci 0), (tC (.str "digits"), ci 0), (tC (.str "count"), ci 0), (tC (.str "blend"), tVar 1)])))
def spPen (K : PySem.W.Frag) : Sp := fun vs H Q _ => ∃ (a : Addr) (ns : List Int), vs = [.ref a] ∧ SqL K H a (ns.map V.int) ∧ ns.length ≤ 63 ∧
  ∀ (p ca : Addr) (z : Int), H p = none → H ca = none → p ≠ ca → 0 ≤ z → z < 2147483587 → Q (.ref p) (upd (upd H ca (.lst (ns.map V.int))) p (.dK (penKvs ca ⟨ns, 0, 0, 0, z⟩)))
theorem pure_pen {K : PySem.W.Frag} {vs : List V} {H : Hp} {Q : VK} {E : XK} (h : spPen K vs H Q E) : t_pen K { nx := fun _ H' => Q .non H', rt := Q } (L2.start nPen vs) H := by
  obtain ⟨a, ns, rfl, hS, hl, k⟩ := h
  refine ⟨_, rfl, a, rfl, ⟨_, hS⟩, for_list (K := K) (a := a) (xs := ns.map V.int) (fun i σ H' => H' = H ∧ ∃ (z : Int) (v : Option V), σ = [some (.ref a), some (.int z), v] ∧ 0 ≤ z ∧ z < 2147483587)
    ⟨rfl, 0, none, rfl, by decide, by decide⟩ (fun i σ H' _ h => by rw [h.1]; exact hS) ?_ ?_⟩
  · rintro i y σ _ hi ⟨rfl, z, v, rfl, z0, z1⟩
    obtain ⟨c, rfl⟩ : ∃ c, y = V.int c := by
      rw [List.getElem?_map] at hi
      cases e : ns[i]? with
      | none => rw [e] at hi; cases hi
      | some c => rw [e] at hi; exact ⟨c, (Option.some.inj hi).symm⟩
    refine ⟨_, rfl, _, _, rfl, rfl, .inr ⟨by decide, by decide⟩, _, rfl, _, _, rfl, rfl, .inl ⟨_, rfl, _, _, rfl, rfl, (show (0 : Int) < 1000000007 by decide), rfl, _, _, rfl, ?_, ?_⟩⟩
    · exact Int.emod_nonneg _ (by decide)
    · have := Int.emod_lt_of_pos (z * 31 + c) (show (0 : Int) < 1000000007 by decide)
      omega
  · rintro σ H2 ⟨eH, z, v, rfl, z0, z1⟩
    rw [eH]
    intro p hp
    have s1 := same_upd (o := .dK []) hp
    refine ⟨_, rfl, a, _, rfl, .inl (s1.seq hS), fun ca hca => ?_⟩
    have npc : p ≠ ca := fun e => by rw [e, upd_same] at hca; cases hca
    have hca' : H ca = none := by rw [upd_ne (Ne.symm npc)] at hca; exact hca
    refine ⟨_, rfl, by rw [upd_ne npc, upd_same], [(kC, .ref ca), (kA, .int 0), (kD, .int 0), (kN, .int 0), (kB, .int z)], rfl, (show 5 ≤ 15 by decide), ?_⟩
    have e1 : mergeK [] [(kC, V.ref ca), (kA, .int 0), (kD, .int 0), (kN, .int 0), (kB, .int z)] = penKvs ca ⟨ns, 0, 0, 0, z⟩ := by
      simp [mergeK, putK, penKvs, ne1, ne2, ne3, ne4, ne5, ne6, ne7, ne8, ne9, ne0]
    have e2 : upd (upd (upd H p (.dK [])) ca (.lst (ns.map V.int))) p (.dK (penKvs ca ⟨ns, 0, 0, 0, z⟩)) = upd (upd H ca (.lst (ns.map V.int))) p (.dK (penKvs ca ⟨ns, 0, 0, 0, z⟩)) := by
      funext b
      by_cases h1 : b = p
      · rw [h1, upd_same, upd_same]
      · by_cases h2 : b = ca
        · rw [upd_ne h1, upd_ne h1, h2, upd_same, upd_same]
        · rw [upd_ne h1, upd_ne h1, upd_ne h2, upd_ne h2, upd_ne h1]
    rw [e1, e2]
    exact k p ca z hp hca' npc z0 z1
end L2.NW
end
section
set_option Elab.async false
set_option autoImplicit false
set_option linter.all false
set_option maxRecDepth 100000
set_option maxHeartbeats 1000000
/-! NwW: unpacking, tuples reversed, an empty dict. -/
namespace L2.NW
open PySem PySem.Spec PyProof.Rows
/-! ### a, b = e -/
section
variable {X : Cx} {κ : Cp} {E : XK} {tg e : Expr} {pos : Pos} {te : EW} {t : Tgt}
def sUnp (t : Tgt) (te : EW) : SW := fun ρ => do
  let d ← te ρ
  match t.st d ρ with
  | some ρ1 => pure (.nx ρ1)
  | none => WP.bad
theorem ds_unp (he : DE X κ (wOf E) e te) (hg : PG X tg (t.tg X.K)) (hs : swapsWithSole [tg] e pos.line X.env = pure false := by rfl) (hw : swappedStores [tg] e X.env = pure none := by rfl) (h1 : (assignEach [tg] X.env).map (·.2) = [assign tg X.env] := by rfl) :
    DS X κ E (.Assign [tg] e pos) (sUnp t te) :=
  PS.imp (ps_asg he hg hs hw h1) fun D σ H ⟨I, ρ, b, w, h⟩ => ds_ofE w h fun d b' v I' H' w' x r h' => by
    split at h'
    · rename_i ρ1 q
      exact Tgt.tg_ok w'.sr.sub q r w'.er fun σ' er' _ => h' σ' I' H' ⟨w'.sr, er', w'.st⟩ x.ii
    · exact h'.elim
/-- x, y = e1, e2 -/
def sPar (i j : Nat) (ts : AW) : SW := fun ρ => do
  let l ← ts ρ
  match l with
  | [c, d] => pure (.nx ((ρ.set i (.val c)).set j (.val d)))
  | _ => WP.bad
theorem ds_par {i j : Nat} {x y : Str} {a b : Expr} {ts : AW} {px py pt pt2 : Pos} {kt k2 : Nat} (hc : X.calm = true) (hN : X.N.Nodup) (hi : X.N[i]? = some x) (hj : X.N[j]? = some y) (hij : i ≠ j) (hx : X.env.scope.names.lookup x = some .local) (hy : X.env.scope.names.lookup y = some .local) (ha : DA X κ (wOf E) [a, b] ts)
    (hw : swappedStores [.Tuple [.Name x px, .Name y py] kt pt] (.Tuple [a, b] k2 pt2) X.env = pure (some [x, y])) (hs : swapsWithSole [.Tuple [.Name x px, .Name y py] kt pt] (.Tuple [a, b] k2 pt2) pos.line X.env = pure false := by rfl) :
    DS X κ E (.Assign [.Tuple [.Name x px, .Name y py] kt pt] (.Tuple [a, b] k2 pt2) pos) (sPar i j ts) :=
  PS.imp (ps_par hc hN hi hj hij hx hy ha hw hs) fun D σ H ⟨I, ρ, b, w, h⟩ => ds_ofA w h fun l b' vs I' H' w' x r h' => by
    split at h'
    · obtain ⟨v, u, rfl, r1, r2⟩ := rps2 r
      exact ⟨v, u, rfl, h' _ I' H' ⟨w'.sr, (w'.er.setVal r1).setVal r2, w'.st⟩ x.ii⟩
    · exact h'.elim
end
/-! ### e[::-1] -/
section
variable {prog : Program} {w : World} {A : Around} {E : Value → Shared → Prop} {s : Shared}
end
section
variable {X : Cx} {κ : Cp} {W : WX} {e : Expr} {te : TE} {ta : EW} {k : Nat} {p1 p2 p3 pos : Pos}
def revD : D → WP D
  | .lst l => pure (.lst l.reverse)
  | .tup l => pure (.tup l.reverse)
  | _ => WP.bad
theorem Rps.reverse {S : Sx} {I : Hp} : ∀ {l : List D} {vs : List V}, Rps S I l vs → Rps S I l.reverse vs.reverse
  | [], vs, h => by simp only [Rps] at h; subst h; exact .nil
  | d :: l, vs, h => by
    simp only [Rps] at h
    obtain ⟨v, ws, rfl, h1, h2⟩ := h
    rw [List.reverse_cons, List.reverse_cons]
    exact h2.reverse.append (.cons h1 .nil)
/-! ### {} -/
end
end L2.NW
end
section
set_option Elab.async false
set_option autoImplicit false
set_option linter.all false
set_option maxRecDepth 100000
set_option maxHeartbeats 1000000
/-! NwX: != of tuples whose items may be the very same thing. -/
namespace L2.NW
open PySem PySem.Spec PyProof.Rows
def E1 (K : PySem.W.Frag) (H : Hp) (x y : V) (b : Bool) : Prop := (∃ c, x = .ref c ∧ y = .ref c ∧ b = true) ∨ ∃ d e, Dp K H x d ∧ Dp K H y e ∧ SeqAt.shaped d = true ∧ SeqAt.shaped e = true ∧ b = PyData.eqv d e
def PEq (K : PySem.W.Frag) (H : Hp) : List V → List V → List Bool → Prop
  | [], [], [] => True
  | x :: xs, y :: ys, b :: bs => E1 K H x y b ∧ PEq K H xs ys bs
  | _, _, _ => False
theorem PEq.at {K : PySem.W.Frag} {H : Hp} : ∀ {xs ys : List V} {bs : List Bool}, PEq K H xs ys bs → xs.length = ys.length ∧ xs.length = bs.length ∧ ∀ (j : Nat) x y b, xs[j]? = some x → ys[j]? = some y → bs[j]? = some b → E1 K H x y b
  | [], [], [], _ => ⟨rfl, rfl, fun j x y b h => by simp at h⟩
  | x :: xs, y :: ys, b :: bs, h => by
    obtain ⟨h1, h2⟩ := h
    obtain ⟨l1, l2, h3⟩ := PEq.at h2
    refine ⟨by simp [l1], by simp [l2], fun j x' y' b' e1 e2 e3 => ?_⟩
    cases j with
    | zero =>
      simp only [List.getElem?_cons_zero, Option.some.injEq] at e1 e2 e3
      subst e1; subst e2; subst e3
      exact h1
    | succ j => exact h3 j x' y' b' (by simpa using e1) (by simpa using e2) (by simpa using e3)
  | [], _ :: _, _, h => by cases h
  | [], [], _ :: _, h => by cases h
  | _ :: _, [], _, h => by cases h
  | _ :: _, _ :: _, [], h => by cases h
/-! ### data -/
def ok1 : D → D → Prop
  | .dic _, .dic _ => True
  | x, y => D.deep 64 x ∧ D.deep 64 y
section
variable {X : Cx} {κ : Cp} {W : WX} {a b : Expr} {pos : Pos} {ta tb : EW}
end
end L2.NW
end
section
set_option Elab.async false
set_option autoImplicit false
set_option linter.all false
set_option maxRecDepth 100000
set_option maxHeartbeats 1000000
/-! NwY: short words for mirrors; the written part of a def, of a class. -/
namespace L2.NW
open PySem PySem.Spec PyProof.Rows
abbrev aN : AW := fun _ => pure []
abbrev aC (t : EW) (ts : AW) : AW := fun ρ => do let x ← t ρ; let xs ← ts ρ; pure (x :: xs)
abbrev eCall (n : Nat) (m : Mir) (ts : AW) : EW := fun ρ => do let xs ← ts ρ; WP.need (xs.length = n) (m xs)
abbrev eMk (n : Nat) (c : Str) (m : MirI) (ts : AW) : EW := fun ρ => do let xs ← ts ρ; WP.need (xs.length = n) (m xs >>= insD c)
abbrev eTup (ts : AW) : EW := fun ρ => do let xs ← ts ρ; WP.need (xs.length ≤ sizeLine) (pure (.tup xs))
abbrev lLst (ts : AW) : AW := fun ρ => do let xs ← ts ρ; WP.need (xs.length ≤ sizeLine) (pure xs)
abbrev eOfL (ts : AW) : EW := fun ρ => do let l ← ts ρ; pure (.lst l)
abbrev eBI (f : List D → WP D) (ts : AW) : EW := fun ρ => do let xs ← ts ρ; f xs
abbrev lBI (f : List D → WP (List D)) (ts : AW) : AW := fun ρ => do let xs ← ts ρ; f xs
abbrev bV (t : EW) : BW := fun ρ => do let d ← t ρ; match d with | .bl b => pure b | _ => WP.bad
abbrev bC (f : D → D → WP D) (ta tb : EW) : BW := fun ρ => e2 f ta tb ρ >>= tst
abbrev bNot (t : BW) : BW := fun ρ => do let c ← t ρ; pure (!c)
abbrev bAnd (ta tb : BW) : BW := fun ρ => do let c ← ta ρ; if c then tb ρ else pure false
abbrev bOr (ta tb : BW) : BW := fun ρ => do let c ← ta ρ; if c then pure true else tb ρ
abbrev bT : BW := fun _ => pure true
abbrev eAnd (ta tb : EW) : EW := fun ρ => do let d ← ta ρ; let c ← tst d; if c then tb ρ else pure (.bl false)
abbrev eOr (ta tb : EW) : EW := fun ρ => do let d ← ta ρ; let c ← tst d; if c then pure (.bl true) else tb ρ
abbrev eNot (ta : EW) : EW := fun ρ => do let d ← ta ρ; let c ← tst d; pure (.bl (!c))
abbrev eIf (tc : BW) (ta tb : EW) : EW := fun ρ => do let c ← tc ρ; if c then ta ρ else tb ρ
abbrev oN : OW := fun _ => pure none
abbrev oS (t : EW) : OW := fun ρ => t ρ >>= oInt
abbrev iSeq' (t : EW) : AW := fun ρ => t ρ >>= seqOf
abbrev iOf (f : List D → WP (List D)) (ts : AW) : AW := fun ρ => ts ρ >>= f
abbrev sFz (i : Nat) (t : SW) : SW := fun ρ => t (frz i ρ)
theorem pe_tyn {X : Cx} {x : Str} {T : String} {pos : Pos} (hg : Gl X x) (hm : X.mg x = none) (hv : bootBuiltins x = some (.type T)) (hn : x ≠ "__name__" := by decide) (hdb : (x == ("__debug__" : Str)) = false := by decide) : PE X (.Name x pos) (tC (.ty T)) :=
  ⟨fun pins s σ H Q I h => ld_blt I hg hm hv ⟨.ty T, H, I, rfl, h⟩ hn hdb⟩
theorem hu64 {k : Nat} {A : Around} (r : Room k A) : A.units + 64 < cLine := r.units
theorem hu66 {k : Nat} {A : Around} (r : Room k A) : A.units + 66 < cLine := by have := r.un; omega
/-- a def of the module -/
def DefOkY (K : PySem.W.Frag) (mg : Str → Option Value) (y x : Str) (st : Stmt) (ps : List Str) : Prop := ∃ (f : Addr) (fd : FuncData), mg y = some (.ref f) ∧ Fun K x x st f fd ∧ Binds K fd ps []
abbrev DefOk (K : PySem.W.Frag) (mg : Str → Option Value) (x : Str) (st : Stmt) (ps : List Str) : Prop := DefOkY K mg x x st ps
/-- a class that is made by its __init__ -/
def ClsOk (K : PySem.W.Frag) (mg : Str → Option Value) (c qual : Str) (st : Stmt) (ps : List Str) : Prop := ∃ (C f : Addr) (fd : FuncData), mg c = some (.ref C) ∧ Mk K C f ∧ Fun K "__init__" qual st f fd ∧ Binds K fd ps []
def ErrOk (P : Program) (K : PySem.W.Frag) (mg : Str → Option Value) (x : Str) (fs : List Str) : Prop := ∃ C f, ErrT P K mg x fs C f
section
variable {P : Program} {w : World} {K : PySem.W.Frag} {mg : Str → Option Value} {base : Heap} {p : Pt} {x y c qual : Str} {st : Stmt} {ps N : List Str} {k n M : Nat} {t : SW}
theorem cal_by (d : DefOkY K mg y x st ps) (S : FnScope N ps (defScope st)) (hn : ps.length = n)
    (body : ∀ (f : Addr) (κ : Cp) (cdv : Value) (A : Around) (outer : List Env) (s : Shared) (H : Hp) (E : XK), κ.p = p → Room k (A.deeper (envOfC x (defScope st) s.heap.objs.size f cdv)) →
      DSs (cxOf (L2.CX P w) P w K mg base N x (defScope st) f cdv A outer s H E) κ E (defBody st) t) : Cal P w K mg base p (k + 1) y n (bodyD N.length t) := by
  obtain ⟨f, fd, hm, F, hb⟩ := d
  exact cal_of hm F S hn hb (body f)
theorem cal_bad (d : DefOkY K mg y x st ps) (S : FnScope N ps (defScope st)) (hn : ps.length = n) : Cal P w K mg base p (k + 1) y n (fun _ => WP.bad) :=
  cal_by (t := fun _ => WP.bad) d S hn fun f κ cdv A outer s H E _ _ => ⟨fun pins s' σ G D I ⟨_, _, _, _, h⟩ => h.elim⟩
theorem calc_by (d : ClsOk K mg c qual st ps) (S : FnScope N ps (defScope st)) (hn : ps.length = n + 1) (hN : N.length = M + 1)
    (body : ∀ (f : Addr) (κ : Cp) (cdv : Value) (A : Around) (outer : List Env) (s : Shared) (H : Hp) (E : XK), κ.p = p → Room k (A.deeper (envOfC qual (defScope st) s.heap.objs.size f cdv)) →
      DSs (cxOf (L2.CX P w) P w K mg base N qual (defScope st) f cdv A outer s H E) κ E (defBody st) t) : CalC P w K mg base p (k + 1) c n (bodyI c M t) := by
  obtain ⟨C, f, fd, hm, hM, F, hb⟩ := d
  exact calc_of hm hM F S hn hb hN (body f)
end
section
variable {X : Cx} {κ : Cp} {W : WX} {E : XK} {elt tg iter : Expr} {ifs : List Expr} {scope : Scope} {pos spos py : Pos} {ti : AW} {t : Tgt} {tt : BW} {te : EW} {vs : List Nat}
theorem dl_lcv (own : List (Str × Nat)) (hvs : own.map (·.2) = vs) (hc : X.calm = true) (hN : X.N.Nodup) (hi : DI X κ W tg iter ti) (ok : BlkOk X.N X.env.scope scope own)
    (hg : ∀ (s : Shared) (H : Hp) (C : Addr) (cl : List (Str × Addr)) (fp : List Addr), PG (X.blk s H scope (compEnvC scope cl C X.env) fp) tg (t.tg X.K)) (ht : ∀ (s : Shared) (H : Hp) (C : Addr) (cl : List (Str × Addr)) (fp : List Addr), DTs (X.blk s H scope (compEnvC scope cl C X.env) fp) κ W0 ifs tt)
    (he : ∀ (s : Shared) (H : Hp) (C : Addr) (cl : List (Str × Addr)) (fp : List Addr), DE (X.blk s H scope (compEnvC scope cl C X.env) fp) κ W0 elt te) (hv : ∀ j ∈ t.slots, j ∈ vs) (hs : ∀ x, foldedSetIterable iter X.env x = pure x := by intro _; rfl) :
    DL X κ W (.ListComp elt [⟨tg, iter, ifs, 0⟩] scope pos) (eLc ti t tt te vs) := by
  subst hvs
  exact dl_lc hc hN hi ok hg ht he hv hs
theorem ds_setLcv (own : List (Str × Nat)) (hvs : own.map (·.2) = vs) {i : Nat} {y : Str} (hc : X.calm = true) (hN : X.N.Nodup) (hy : X.N[i]? = some y) (hyl : X.env.scope.names.lookup y = some .local)
    (hsw : swapsWith (.ListComp elt [⟨tg, iter, ifs, 0⟩] scope pos) (some (.Name y py)) spos.line X.env = pure true) (hi : DI X κ (wOf E) tg iter ti) (ok : BlkOk X.N X.env.scope scope own)
    (hg : ∀ (s : Shared) (H : Hp) (C : Addr) (cl : List (Str × Addr)) (fp : List Addr), PG (X.blk s H scope (compEnvC scope cl C X.env) fp) tg (t.tg X.K)) (ht : ∀ (s : Shared) (H : Hp) (C : Addr) (cl : List (Str × Addr)) (fp : List Addr), DTs (X.blk s H scope (compEnvC scope cl C X.env) fp) κ W0 ifs tt)
    (he : ∀ (s : Shared) (H : Hp) (C : Addr) (cl : List (Str × Addr)) (fp : List Addr), DE (X.blk s H scope (compEnvC scope cl C X.env) fp) κ W0 elt te) (hv : ∀ j ∈ t.slots, j ∈ vs) (hs : ∀ x, foldedSetIterable iter X.env x = pure x := by intro _; rfl) :
    DS X κ E (.Assign [.Name y py] (.ListComp elt [⟨tg, iter, ifs, 0⟩] scope pos) spos) (sSet i (eOfL (eLc ti t tt te vs))) := by
  subst hvs
  exact ds_setLc hc hN hy hyl hsw hi ok hg ht he hv hs
end
end L2.NW
end
section
set_option Elab.async false
set_option autoImplicit false
set_option linter.all false
set_option maxRecDepth 100000
set_option maxHeartbeats 1000000
/-! NwM1: mirrors that only draw: what comes of them. -/
namespace L2.NW
open PySem PySem.Spec PyProof.Rows
/-- at most n draws; whatever comes is P -/
def Dr {α : Type} (n : Nat) (P : α → Prop) (m : WP α) : Prop := ∀ b Q E, n ≤ b → (∀ a b', P a → b ≤ b' + n → Q a b') → m.run b Q E
namespace Dr
variable {α β : Type} {n k : Nat} {P P' : α → Prop} {R : β → Prop} {m : WP α} {f : α → WP β}
theorem pure {a : α} (h : P a) : Dr 0 P (Pure.pure a) := fun b Q E _ q => q a b h (by omega)
theorem pure_n {a : α} (h : P a) : Dr n P (Pure.pure a) := fun b Q E _ q => q a b h (by omega)
theorem bind (h : Dr n P m) (g : ∀ a, P a → Dr k R (f a)) : Dr (n + k) R (m >>= f) := fun b Q E hb q => by
  rw [WP.run_bind]
  refine h b _ E (by omega) fun a b' pa hb' => g a pa b' Q E (by omega) fun c b'' rc h2 => q c b'' rc (by omega)
theorem mono (h : Dr n P m) (hn : n ≤ k) (hp : ∀ a, P a → P' a) : Dr k P' m := fun b Q E hb q => h b Q E (by omega) fun a b' pa h2 => q a b' (hp a pa) (by omega)
theorem imp (h : Dr n P m) (hp : ∀ a, P a → P' a) : Dr n P' m := h.mono (Nat.le_refl _) hp
theorem need {c : Prop} (hc : c) (h : Dr n P m) : Dr n P (WP.need c m) := fun b Q E hb q => ⟨hc, h b Q E hb q⟩
theorem noex (h : Dr n P m) : Dr n P (WP.noex m) := fun b Q E hb q => h b Q _ hb q
end Dr
theorem dr_draw {n : Int} (h0 : 0 < n) (h1 : n < 1073741824) : Dr 1 (fun d => ∃ i : Int, d = .int i ∧ 0 ≤ i ∧ i < n) (drawD n) := fun b Q E hb q => ⟨⟨h0, h1⟩, b - 1, by omega, fun d h2 h3 => q _ _ ⟨d, rfl, h2, h3⟩ (by omega)⟩
/-! ### loops -/
@[simp] theorem noex_need {α : Type} (c : Prop) (m : WP α) : WP.noex (WP.need c m) = WP.need c (WP.noex m) := rfl
@[simp] theorem noex_ite {α : Type} (c : Bool) (m n : WP α) : WP.noex (if c = true then m else n) = if c = true then WP.noex m else WP.noex n := by cases c <;> rfl
theorem sz {n : Nat} (h : n ≤ 100000) : n ≤ sizeLine := Nat.le_trans h (by rw [sizeLine_eq]; decide)
theorem seq_tup (l : List D) : seqOf (.tup l) = pure l := rfl
theorem seq_lst (l : List D) : seqOf (.lst l) = pure l := rfl
end L2.NW
end
section
set_option Elab.async false
set_option autoImplicit false
set_option linter.all false
set_option maxRecDepth 100000
set_option maxHeartbeats 2000000
/-! NxE: errors of the program's own classes as values: made, read, asked for their class. -/
namespace L2.NW
open PySem PySem.Spec PyProof.Rows
/-! ### made -/
section
variable {X : Cx} {κ : Cp} {E : XK} {W : WX} {x : Str} {fs : List Str} {C fI : Addr} {k : Nat} {e : Expr} {es : List Expr} {ta : TA} {ts : AW} {p pos : Pos}
end
/-! ### what stands there -/
section
variable {S : Sx} {I H : Hp}
/-- the world with one more thing that is known by what is true of it -/
theorem SR.newE {b : Nat} {a : Addr} {φ : Heap → Prop} (s : SR S I H b) (h : H a = none) (n : ∀ q, HO.ext φ ≠ LamX.CodeO a q) : SR S (upd I a (.ext φ)) (upd H a (.ext φ)) b := by
  obtain ⟨ca, q, e1, e2, ok⟩ := s.pen
  have hp : S.p.a ≠ a := ne_of_none e1 h
  refine ⟨fun c u e => ?_, by rw [upd_ne hp]; exact s.pn, ⟨ca, q, by rw [upd_ne hp]; exact e1, ?_, ok⟩, tabs_upd s.tb (fun u z => by rw [h] at z; cases z), fun c ps z => ?_, fun c q e => ?_, fun c o e => by rw [upd_ne (ne_of_none (s.sub _ _ (s.ci c o e)) h)]; exact s.ci c o e⟩
  · by_cases hc : c = a
    · subst hc; rw [upd_same] at e ⊢; exact e
    · rw [upd_ne hc] at e ⊢; exact s.sub c u e
  · rw [upd_ne (ne_of_none (s.sub _ _ e2) h)]; exact e2
  · by_cases hc : c = a
    · subst hc; rw [upd_same] at z; cases z
    · rw [upd_ne hc] at z; exact s.nt c ps z
  · by_cases hc : c = a
    · subst hc
      rw [upd_same] at e
      exact absurd (Option.some.inj e) (n q)
    · rw [upd_ne hc] at e ⊢; exact s.cd c q e
end
/-! ### the rules -/
section
variable {X : Cx} {κ : Cp} {W : WX} {x : Str} {fs : List Str} {C fI : Addr} {k : Nat} {e : Expr} {es : List Expr} {ts : AW} {p pos : Pos}
end
end L2.NW
end
section
set_option Elab.async false
set_option autoImplicit false
set_option linter.all false
set_option maxRecDepth 100000
set_option maxHeartbeats 4000000
/-! NxI: errors as values: their fields, their classes. -/
namespace L2.NW
open PySem PySem.Spec PyProof.Rows PySem.W PySem.Calls
section
variable {prog : Program} {w : World} {A : Around} {E : Value → Shared → Prop} {s : Shared} {K : Frag} {x D : Addr} {ox : Obj} {od : Option Obj}
end
/-! ### what the walk reads -/
/-! ### the rules -/
/-- e.n: the classes cs have such a field -/
def xfld (cs : List Str) (n : Str) (d : D) : WP D := match d with
  | .exc c ns l => WP.need (c ∈ cs) (match (ns.zip l).lookup n with
    | some d => pure d
    | none => WP.bad)
  | _ => WP.bad
def XFld (K : Frag) (mg : Str → Option Value) (cs : List Str) (n : Str) : Prop := ∀ c ∈ cs, ∀ C, mg c = some (.ref C) → XfC K C ∧ findIn K (.ref C) n = some none
section
variable {X : Cx} {κ : Cp} {W : WX} {a c : Expr} {pos pn : Pos} {ta : EW} {v : V} {cv : Value} {G : Str → Option Bool}
theorem pe_cls {x : Str} {C : Addr} (hg : Gl X x) (hm : X.mg x = some (.ref C)) (hdb : (x == ("__debug__" : Str)) = false := by decide) : PE X (.Name x pos) (tC (.ref C)) :=
  ⟨fun pins s σ H Q I h => ld_glob I hg hm ⟨.ref C, H, I, rfl, h⟩ hdb⟩
end
end L2.NW
end
section
set_option Elab.async false
set_option autoImplicit false
set_option linter.all false
set_option maxRecDepth 100000
set_option maxHeartbeats 2000000
/-! NxX: != of lists whose items may be the very same thing, list * int, three names at once. -/
namespace L2.NW
open PySem PySem.Spec PyProof.Rows
/-! ### != -/
/-! ### list * int -/
section
variable {X : Cx} {κ : Cp} {W : WX} {E : XK} {a b : Expr} {pos : Pos} {ta tb : EW}
end
/-! ### a dict by its items -/
section
variable {X : Cx} {κ : Cp} {W : WX}
end
end L2.NW
end
section
set_option Elab.async false
set_option autoImplicit false
set_option linter.all false
set_option maxRecDepth 100000
set_option maxHeartbeats 2000000
/-! NxY: a small dict as a thing; what the written part says of errors as values. -/
namespace L2.NW
open PySem PySem.Spec PyProof.Rows
section
variable {X : Cx} {κ : Cp} {W : WX}
end
end L2.NW
end
section
set_option Elab.async false
set_option autoImplicit false
set_option linter.all false
set_option maxRecDepth 100000
set_option maxHeartbeats 4000000
/-! NxP: tuple * int, text * int, is of bools, max and min of a list, == by an own __eq__. -/
namespace L2.NW
open PySem PySem.Spec PyProof.Rows
/-! ### tuple * int, few times -/
/-! ### text * int -/
/-! ### is of bools -/
/-! ### max, min of a list of ints -/
section
variable {X : Cx} {κ : Cp} {W : WX} {a b e : Expr} {pos pn : Pos} {ta tb : EW} {ts : AW}
end
end L2.NW
end
section
set_option Elab.async false
set_option autoImplicit false
set_option linter.all false
set_option maxRecDepth 100000
set_option maxHeartbeats 2000000
/-! NxQ: methods, == by an own __eq__, isinstance of an own class, defs that hold lambdas. -/
namespace L2.NW
open PySem PySem.Spec PyProof.Rows
/-! ### a method by its body -/
/-- a method as it is written -/
def MetOk (K : PySem.W.Frag) (mg : Str → Option Value) (c x qual : Str) (st : Stmt) (ps : List Str) : Prop := ∃ (C f : Addr) (fd : FuncData), mg c = some (.ref C) ∧ PySem.W.findIn K (.ref C) x = some (some (.ref f)) ∧ PySem.W.isFn K (.ref f) = true ∧ Fun K x qual st f fd ∧ Binds K fd ps []
/-! ### == -/
section
variable {X : Cx} {κ : Cp} {W : WX} {a b e : Expr} {pos pn : Pos} {ta tb : EW} {c : Str} {m : Mir} {j k : Nat}
/-! ### isinstance of an own class -/
def InsOk (K : PySem.W.Frag) (mg : Str → Option Value) (c : Str) : Prop := ∃ C, mg c = some (.ref C) ∧ C8.InsC K C
end
/-! ### data without function values (of some numbers) -/
mutual
def D.nofw (f : Nat → Bool) : D → Bool
  | .tup l => D.nofws f l
  | .lst l => D.nofws f l
  | .ins _ _ l => D.nofws f l
  | .exc _ _ l => D.nofws f l
  | .dct ks vs => D.nofws f ks && D.nofws f vs
  | .fn j => !f j
  | _ => true
def D.nofws (f : Nat → Bool) : List D → Bool
  | [] => true
  | d :: l => d.nofw f && D.nofws f l
end
abbrev D.nofn (d : D) : Bool := d.nofw fun _ => true
abbrev D.nofns (l : List D) : Bool := D.nofws (fun _ => true) l
mutual
theorem Rp.to {f : Nat → Bool} {S S' : Sx} {I : Hp} (h1 : S'.K = S.K) (h2 : S'.mg = S.mg) (h3 : S'.p.a = S.p.a) (h4 : S'.w = S.w) (h5 : ∀ j, f j = false → S'.p.lam j = S.p.lam j) : ∀ {d : D} {v : V}, d.nofw f = true → Rp S I d v → Rp S' I d v
  | .non, v, _, h => by simpa only [Rp] using h
  | .bl b, v, _, h => by simpa only [Rp] using h
  | .int i, v, _, h => by simpa only [Rp] using h
  | .str s, v, _, h => by simpa only [Rp] using h
  | .tup l, v, n, h => by
    simp only [Rp] at h ⊢
    obtain ⟨a, vs, e, g1, g2⟩ := h
    exact ⟨a, vs, e, by rw [h1]; exact g1, Rps.to h1 h2 h3 h4 h5 n g2⟩
  | .lst l, v, n, h => by
    simp only [Rp] at h ⊢
    obtain ⟨a, vs, e, g1, g2⟩ := h
    exact ⟨a, vs, e, g1, Rps.to h1 h2 h3 h4 h5 n g2⟩
  | .ins c ns l, v, n, h => by
    simp only [Rp] at h ⊢
    obtain ⟨a, C, dx, vs, e, g1, g2, g3, g4⟩ := h
    exact ⟨a, C, dx, vs, e, by rw [h2]; exact g1, g2, g3, Rps.to h1 h2 h3 h4 h5 n g4⟩
  | .pen, v, _, h => by simp only [Rp] at h ⊢; rw [h3]; exact h
  | .raw w, v, _, h => by simpa only [Rp] using h
  | .dic a, v, _, h => by simpa only [Rp] using h
  | .fn j, v, n, h => by
    simp only [D.nofw, Bool.not_eq_true'] at n
    simp only [Rp] at h ⊢
    rw [h5 j n]; exact h
  | .dct ks vs, v, n, h => by
    simp only [D.nofw, Bool.and_eq_true] at n
    simp only [Rp] at h ⊢
    obtain ⟨a, xs, e, g1, g2, g3, g4⟩ := h
    exact ⟨a, xs, e, by rw [h4]; exact g1, g2, Rps.to h1 h2 h3 h4 h5 n.1 g3, Rps.to h1 h2 h3 h4 h5 n.2 g4⟩
  | .exc c ns l, v, n, h => by
    simp only [Rp] at h ⊢
    obtain ⟨a, C, e, g1, g2⟩ := h
    refine ⟨a, C, e, by rw [h2]; exact g1, ?_⟩
    rcases g2 with g2 | ⟨d, vs, g2, g3, g4, g5⟩
    · exact .inl g2
    · exact .inr ⟨d, vs, g2, g3, g4, Rps.to h1 h2 h3 h4 h5 n g5⟩
theorem Rps.to {f : Nat → Bool} {S S' : Sx} {I : Hp} (h1 : S'.K = S.K) (h2 : S'.mg = S.mg) (h3 : S'.p.a = S.p.a) (h4 : S'.w = S.w) (h5 : ∀ j, f j = false → S'.p.lam j = S.p.lam j) : ∀ {l : List D} {vs : List V}, D.nofws f l = true → Rps S I l vs → Rps S' I l vs
  | [], vs, _, h => by simpa only [Rps] using h
  | d :: l, vs, n, h => by
    simp only [D.nofws, Bool.and_eq_true] at n
    simp only [Rps] at h ⊢
    obtain ⟨v, ws, e, g1, g2⟩ := h
    exact ⟨v, ws, e, Rp.to h1 h2 h3 h4 h5 n.1 g1, Rps.to h1 h2 h3 h4 h5 n.2 g2⟩
end
mutual
theorem D.nofw_none : ∀ {d : D}, d.nofw (fun _ => false) = true
  | .non => rfl
  | .bl _ => rfl
  | .int _ => rfl
  | .str _ => rfl
  | .tup l => D.nofws_none (l := l)
  | .lst l => D.nofws_none (l := l)
  | .ins _ _ l => D.nofws_none (l := l)
  | .exc _ _ l => D.nofws_none (l := l)
  | .pen => rfl
  | .raw _ => rfl
  | .dic _ => rfl
  | .dct ks vs => by simp only [D.nofw, D.nofws_none, Bool.and_self]
  | .fn j => rfl
theorem D.nofws_none : ∀ {l : List D}, D.nofws (fun _ => false) l = true
  | [] => rfl
  | d :: l => by simp only [D.nofws, D.nofw_none, D.nofws_none, Bool.and_self]
end
theorem Rp.cg {S S' : Sx} {I : Hp} (h1 : S'.K = S.K) (h2 : S'.mg = S.mg) (h3 : S'.p.a = S.p.a) (h4 : S'.w = S.w) (h5 : S'.p.lam = S.p.lam) {d : D} {v : V} (h : Rp S I d v) : Rp S' I d v := Rp.to (f := fun _ => false) h1 h2 h3 h4 (fun j _ => by rw [h5]) D.nofw_none h
theorem Rps.cg {S S' : Sx} {I : Hp} (h1 : S'.K = S.K) (h2 : S'.mg = S.mg) (h3 : S'.p.a = S.p.a) (h4 : S'.w = S.w) (h5 : S'.p.lam = S.p.lam) {d : List D} {v : List V} (h : Rps S I d v) : Rps S' I d v := Rps.to (f := fun _ => false) h1 h2 h3 h4 (fun j _ => by rw [h5]) D.nofws_none h
/-! ### defs with lambdas -/
/-- a def of the module, its code object at c -/
def DefOkC (K : PySem.W.Frag) (mg : Str → Option Value) (x : Str) (st : Stmt) (ps : List Str) (c : Addr) : Prop :=
  ∃ (f : Addr) (oc kV doc pm ct : Value) (an od : Option Addr) (osl : Array (Option Value)), mg x = some (.ref f) ∧ K.lookup f = some ⟨oc, od, .func (PySem.W.fnOf x x (defArgs st) (defBody st) (defScope st) .none kV doc pm an (.ref c) ct), osl⟩ ∧ PySem.W.codeIn K (.ref c) x = true ∧ PySem.W.keepIn K (.ref f) = true ∧
    Binds K (PySem.W.fnOf x x (defArgs st) (defBody st) (defScope st) .none kV doc pm an (.ref c) ct) ps []
section
variable {P : Program} {w : World} {K : PySem.W.Frag} {mg : Str → Option Value} {base : Heap} {p : Pt} {x : Str} {st : Stmt} {N ps : List Str} {k n : Nat} {t : SW} {c : Addr}
end
end L2.NW
end
section
set_option Elab.async false
set_option autoImplicit false
set_option linter.all false
set_option maxRecDepth 100000
set_option maxHeartbeats 1000000
/-! NwZ: what the written part says, put together. -/
namespace L2.NW
open PySem PySem.Spec PyProof.Rows
section
variable {K : PySem.W.Frag} {h : Heap} {mg : Str → Option Value} {x qual : Str} {st : Stmt} {ps : List Str} {f C fI : Addr} {oc kV doc pm cdv ct dV : Value} {od an : Option Addr} {osl : Array (Option Value)}
theorem mk_def (X : K.In h) (G : h.Ns mainGlobals mg) (a : PySem.W.nsIn K mainGlobals x = some (some (.ref f))) (l : K.lookup f = some ⟨oc, od, .func (PySem.W.fnOf x x (defArgs st) (defBody st) (defScope st) .none kV doc pm an cdv ct), osl⟩) (c : PySem.W.codeIn K cdv x = true) (k : PySem.W.keepIn K (.ref f) = true)
    (b : ∀ (kV doc pm : Value) (an : Option Addr) (cdv ct : Value) (us : List Value), us.length = ps.length → bindArgs (PySem.W.fnOf x x (defArgs st) (defBody st) (defScope st) .none kV doc pm an cdv ct) ⟨us, []⟩ = pure (ps.zip us)) : DefOk K mg x st ps :=
  ⟨f, _, PySem.W.mg_of X G a, fun_mk (st := st) l c k, (fun_mk (st := st) l c k).binds b⟩
theorem mk_cls (X : K.In h) (G : h.Ns mainGlobals mg) (a : PySem.W.nsIn K mainGlobals x = some (some (.ref C))) (m : PySem.W.makesIn K C = true) (i : PySem.W.findIn K (.ref C) "__init__" = some (some (.ref fI))) (n : PySem.W.isFn K (.ref fI) = true) (kc : PySem.W.keepIn K (.ref C) = true)
    (l : K.lookup fI = some ⟨oc, od, .func (PySem.W.fnOf "__init__" qual (defArgs st) (defBody st) (defScope st) .none kV doc pm an cdv ct), osl⟩) (c : PySem.W.codeIn K cdv qual = true) (k : PySem.W.keepIn K (.ref fI) = true)
    (b : ∀ (kV doc pm : Value) (an : Option Addr) (cdv ct : Value) (us : List Value), us.length = ps.length → bindArgs (PySem.W.fnOf "__init__" qual (defArgs st) (defBody st) (defScope st) .none kV doc pm an cdv ct) ⟨us, []⟩ = pure (ps.zip us)) : ClsOk K mg x qual st ps :=
  ⟨C, fI, _, PySem.W.mg_of X G a, ⟨m, i, n, kc⟩, fun_mk (st := st) l c k, (fun_mk (st := st) l c k).binds b⟩
/-- a field's name means nothing to the classes -/
theorem mk_fld1 (X : K.In h) (G : h.Ns mainGlobals mg) {c f : Str} (a : PySem.W.nsIn K mainGlobals c = some (some (.ref C))) (pg : PySem.W.plainGet K C Str.empty = true) (hd : PySem.W.hasDictIn K C = true) (po : PySem.W.plainOver K C = true) (sa : PySem.W.findIn K (.ref C) "__setattr__" = some (some (.builtin "object.__setattr__")))
    (n : PySem.W.findIn K (.ref C) f = some none) : FldF K mg [c] f := fun y hy D hD => by
  have e := List.mem_singleton.mp hy
  subst e
  have z := hD.symm.trans (PySem.W.mg_of X G a)
  cases z
  exact ⟨⟨pg, hd, po, sa⟩, n⟩
theorem mk_none (X : K.In h) (G : h.Ns mainGlobals mg) {c : Str} (a : PySem.W.nsIn K mainGlobals c = some none) : mg c = none := PySem.W.mg_none_of X G a
/-- all that an error's class must be -/
structure ErrK (K : PySem.W.Frag) (x : Str) (fs : List Str) (C : Addr) : Prop where
  a : PySem.W.nsIn K mainGlobals x = some (some (.ref C))
  ga : PySem.W.findIn K (.ref C) "__getattribute__" = some (some (.builtin "BaseException.__getattribute__"))
  gg : PySem.W.findIn K (.ref C) "__getattr__" = some none
  exC : PySem.W.subIn K (.ref C) (.type "BaseException") = some true
  hdC : PySem.W.hasDictIn K C = true
  noF : ∀ f ∈ fs, PySem.W.findIn K (.ref C) f = some none
theorem ErrK.xf {fs : List Str} (e : ErrK K x fs C) : XfC K C := ⟨e.ga, e.gg, e.exC, e.hdC⟩
theorem ErrK.cs {fs : List Str} {F : Str → Str → Option Bool} {tag : Str} (X : K.In h) (G : h.Ns mainGlobals mg) (e : ErrK K x fs C) (nd : (x == ("__debug__" : Str)) = false := by decide) : CsOk K mg F ⟨x, tag, fs⟩ := ⟨⟨C, PySem.W.mg_of X G e.a, e.xf, e.noF⟩, nd⟩
theorem mk_err {prog : Program} {fs : List Str} {nm q : Str} {N cda cc : Addr} {bs bm : List Value} {sn : List Str} {sub : List Value} {ab : Bool} {col : Option Bool} {dd cdd cld : Option Addr} {k0 k1 k2 k3 k5 : Option Value} {ccl cl : Value} {ccs csl : Array (Option Value)} {ws : Array Value} {file : Str} {tf : Tok} {ar : Arg}
    (X : K.In h) (G : h.Ns mainGlobals mg) (e : ErrK K x fs C) (ns : mg "super" = none)
    (xL : K.lookup C = some (excClassObj nm q C N bs bm true sn sub ab col dd k0 k1 k2 k3 k5 "ValueError.__new__")) (bmO : PySem.HandSPX.refsVE bm = true) (sa : PySem.W.findIn K (.ref C) "__setattr__" = some (some (.builtin "object.__setattr__")))
    (i : PySem.W.findIn K (.ref C) "__init__" = some (some (.ref fI))) (t : PySem.W.typeIn K (.ref fI) = some (.type "function")) (kC : PySem.W.keepIn K (.ref C) = true) (tC : PySem.W.typeIn K (.ref C) = some (.type "type"))
    (su : PySem.W.ks_superIn K C C "__init__" = some (some (.builtin "ValueError.__init__"))) (sv : PySem.W.subIn K (.ref C) (.type "ValueError") = some true) (sl : PySem.W.mroIn K C (.ref C) = some true) (tp : PySem.W.nsIn K cStatics "thirdparty.any" = some none)
    (l : K.lookup fI = some ⟨oc, od, .func (PySem.W.ksFn "__init__" qual (defArgs st) (defBody st) (defScope st) dV kV doc pm an (.ref cda) ct cc), osl⟩) (c : PySem.W.codeIn K (.ref cda) qual = true)
    (lc : K.lookup cda = some ⟨ccl, cdd, .fields ws, ccs⟩) (lw : ws[2]? = some (.str file tf)) (lf : ((prog.main.file : Str) == file) = true) (ls : (prog.main.scope.names.lookup ("super" : Str)).isSome = false) (ll : K.lookup cc = some ⟨cl, cld, .cell (some (.ref C)), csl⟩)
    (nd : (("self" : Str) :: fs).Nodup) (few : fs.length ≤ 100) (so : fs ≠ []) (ini : IniS fs (defBody st))
    (s1 : (defScope st).kind = .function) (s2 : (defScope st).isCoroutine = false) (s3 : (defScope st).isGenerator = false) (s4 : ∀ y ∈ (defScope st).names, y.2 ≠ .cell) (s5 : (defScope st).names.lookup ("super" : Str) = some .globalImplicit) (s6 : (defScope st).names.lookup ("__class__" : Str) = some .free)
    (s7 : ∀ g ∈ ("self" : Str) :: fs, (defScope st).names.lookup g = some .local ∧ (g == ("__debug__" : Str)) = false) (s8 : ((defArgs st).posonlyargs ++ (defArgs st).args).head? = some ar) (s9 : ar.arg = "self")
    (b : ∀ (s : Shared) (us : List Value), us.length = fs.length + 1 → BindsTo s (PySem.W.ksFn "__init__" qual (defArgs st) (defBody st) (defScope st) dV kV doc pm an (.ref cda) ct cc) ⟨us, []⟩ ((("self" : Str) :: fs).zip us)) : ErrOk prog K mg x fs :=
  ⟨C, fI, PySem.W.mg_of X G e.a, ⟨nm, q, N, bs, bm, sn, sub, ab, col, dd, k0, k1, k2, k3, k5, xL, bmO⟩, sa, e.xf, e.noF, i, t, kC, e.exC, tC, su, sv, sl, tp, ns, nd, few, so,
    ⟨qual, _, _, _, dV, kV, doc, pm, ct, oc, ccl, cl, an, od, cdd, cld, cda, cc, osl, ccs, csl, ws, file, tf, ar, l, c, ini, lc, lw, lf, ls, ll, s1, s2, s3, s4, s5, s6, s7, s8, s9, b⟩⟩
end
theorem cx_none {P : Program} {w : World} {H : Hp} {s s' : Shared} {e : Value} (h : L2.CX P w [] H s (fun _ _ _ => False) e s') : False := by
  unfold L2.CX at h
  obtain ⟨_, _, _, _, _, _, _, _, _, _, _, _, z⟩ := h
  exact z
end L2.NW
end
section
set_option Elab.async false
set_option autoImplicit false
set_option linter.all false
set_option maxRecDepth 100000
set_option maxHeartbeats 2000000
/-! NxR: the end of a law whose defs hold lambdas. -/
namespace L2.NW
open PySem PySem.Spec PyProof.Rows LamX
/-- the tables of all defs are empty -/
def TabsAt (q : Program) (K : PySem.W.Frag) (mg : Str → Option Value) (h : Heap) : Prop := ∀ (x : Str) (f : Addr), ((recsOf q).any fun e => e.name == x) = true → mg x = some (.ref f) → OwnTab K f h
/-- a def that holds lambdas, as it is written -/
theorem mk_defC {K : PySem.W.Frag} {h : Heap} {mg : Str → Option Value} {x : Str} {st : Stmt} {ps : List Str} {f c P : Addr} {oc kV doc pm ct e : Value} {an od dd : Option Addr} {osl sl : Array (Option Value)} {vs : Array Value} (X : K.In h) (G : h.Ns mainGlobals mg)
    (a : PySem.W.nsIn K mainGlobals x = some (some (.ref f))) (l : K.lookup f = some ⟨oc, od, .func (PySem.W.fnOf x x (defArgs st) (defBody st) (defScope st) .none kV doc pm an (.ref c) ct), osl⟩) (cc : PySem.W.codeIn K (.ref c) x = true) (k : PySem.W.keepIn K (.ref f) = true)
    (lk : K.lookup c = some ⟨e, dd, .fields vs, sl⟩) (lp : vs[11]? = some (.ref P)) (np : K.lookup P = none) (hd : PySem.W.codeHdIn K c P = true)
    (b : ∀ (kV doc pm : Value) (an : Option Addr) (cdv ct : Value) (us : List Value), us.length = ps.length → bindArgs (PySem.W.fnOf x x (defArgs st) (defBody st) (defScope st) .none kV doc pm an cdv ct) ⟨us, []⟩ = pure (ps.zip us)) {q : Program} (own : TabsAt q K mg h) (hq : ((recsOf q).any fun e => e.name == x) = true) :
    DefOkC K mg x st ps c ∧ h.get? P = some { cls := .none, data := .fields #[] } ∧ K.lookup P = none ∧ PySem.W.CodeHd h c P :=
  ⟨⟨f, oc, kV, doc, pm, ct, an, od, osl, PySem.W.mg_of X G a, l, cc, k, .all (b kV doc pm an (.ref c) ct)⟩, own x f hq (PySem.W.mg_of X G a) c P _ _ _ _ _ _ l rfl rfl lk lp, np, PySem.W.codeHd_of_K X hd⟩
theorem mk_met {K : PySem.W.Frag} {h : Heap} {mg : Str → Option Value} {cn x qual : Str} {st : Stmt} {ps : List Str} {C f : Addr} {oc kV doc pm cdv ct : Value} {an od : Option Addr} {osl : Array (Option Value)} (X : K.In h) (G : h.Ns mainGlobals mg) (a : PySem.W.nsIn K mainGlobals cn = some (some (.ref C)))
    (i : PySem.W.findIn K (.ref C) x = some (some (.ref f))) (n : PySem.W.isFn K (.ref f) = true) (l : K.lookup f = some ⟨oc, od, .func (PySem.W.fnOf x qual (defArgs st) (defBody st) (defScope st) .none kV doc pm an cdv ct), osl⟩) (c : PySem.W.codeIn K cdv qual = true) (k : PySem.W.keepIn K (.ref f) = true)
    (b : ∀ (kV doc pm : Value) (an : Option Addr) (cdv ct : Value) (us : List Value), us.length = ps.length → bindArgs (PySem.W.fnOf x qual (defArgs st) (defBody st) (defScope st) .none kV doc pm an cdv ct) ⟨us, []⟩ = pure (ps.zip us)) : MetOk K mg cn x qual st ps :=
  ⟨C, f, _, PySem.W.mg_of X G a, i, n, fun_mk (st := st) l c k, (fun_mk (st := st) l c k).binds b⟩
end L2.NW
end
section
set_option Elab.async false
set_option autoImplicit false
set_option linter.all false
set_option maxRecDepth 100000
set_option maxHeartbeats 2000000
/-! NyA: function values that are handed on: what they hold, what a call of one is worth. -/
namespace L2.NW
open PySem PySem.Spec PyProof.Rows LamX NdefX
/-! ### cells -/
def Pt.Cells (p : Pt) (h : Heap) (H : Hp) : Prop := ∀ q ∈ p.cs, CellsAt q.cl q.fr q.ws h H
/-- what stood in a cell when X began stands there still -/
theorem cell_now {X : Cx} {pins : List (Addr × Obj)} {σ : L2.St} {H : Hp} {s : Shared} (I : Inv X pins σ H s) {c : Addr} (n : X.H_0 c = none) (hx : c ∉ X.ex) : H c = none ∨ X.s_0.heap.get? c = none := by
  cases e : X.s_0.heap.get? c with
  | none => exact .inr rfl
  | some o => exact .inl (I.base.free c o e n hx)
theorem cells_stay {X : Cx} {pins : List (Addr × Obj)} {σ : L2.St} {H : Hp} {s : Shared} {cl : List (Str × Addr)} {fr : List Str} {ws : List (Option V)} (C : CellsAt cl fr ws X.s_0.heap X.H_0) (hx : ∀ y c, cl.lookup y = some c → c ∉ X.ex) (I : Inv X pins σ H s) : CellsAt cl fr ws s.heap H where
  len := C.len
  inj := C.inj
  all := fun y c e => by
    have ⟨n, v, o, ho, hd⟩ := C.all y c e
    have ⟨_, g⟩ := I.base.any ho n (hx y c e)
    rcases cell_now I n (hx y c e) with z | z
    · exact ⟨z, v, _, g, hd⟩
    · rw [ho] at z; cases z
  has := fun i y e => by
    have ⟨c, hc, hv⟩ := C.has i y e
    exact ⟨c, hc, fun v ev => match hv v ev with
      | ⟨u, r, o, ho, hd⟩ => match I.base.any ho (C.all y c hc).1 (hx y c hc) with
        | ⟨_, g⟩ => ⟨u, r, _, g, hd⟩⟩
/-- while X runs the cells of p hold what they should -/
def Cx.Hold (X : Cx) (p : Pt) : Prop := ∀ (pins : List (Addr × Obj)) (σ : L2.St) (H : Hp) (s : Shared), Inv X pins σ H s → p.Cells s.heap H
theorem hold_of {X : Cx} {p : Pt} (hx : X.ex = []) (h : p.Cells X.s_0.heap X.H_0) : Cx.Hold X p := fun pins σ H s I q hq => cells_stay (h q hq) (fun y c _ z => by rw [hx] at z; cases z) I
/-! ### function values -/
/-- function values of p (but for those of f) do what p says -/
structure CloV (P : Program) (w : World) (K : PySem.W.Frag) (mg : Str → Option Value) (base : Heap) (p : Pt) (k : Nat) (g : Nat → Bool := fun _ => false) : Prop where
  run : ∀ (j : Nat), g j = false → ∀ (A : Around) (outer : List Env) (s : Shared) (H I : Hp) (b : Nat) (v : V) (us : List Value) (vs : List V) (ds : List D) (Q : VK) (E : XK), Room k A → Env0 P w K mg base A outer s H → p.Cells s.heap H → Vals vs us → SR ⟨K, mg, p, w⟩ I H b → Rp ⟨K, mg, p, w⟩ I (.fn j) v → Rps ⟨K, mg, p, w⟩ I ds vs → D.nofns ds = true →
    (p.mir j ds).run b (fun d b' => d.nofn = true → KD ⟨K, mg, p, w⟩ I H Q d b') (fun x b' => D.nofns x.vs = true → KX ⟨K, mg, p, w⟩ I H E x b') → ∃ f, v = .ref f ∧ codeAny (model P w) A (.call (.ref f) ⟨us, []⟩) (CR (L2.CX P w) outer P w H s Q E) s
  fn : ∀ j, g j = false → ∀ q φ, p.lam j = .clo q φ → ∀ f c h, φ f c h → PySem.W.FnAt f h
  st : ∀ j, g j = false → ∀ f, p.lam j = .stat f → PySem.W.keepIn K (.ref f) = true
theorem CloV.mono {P : Program} {w : World} {K : PySem.W.Frag} {mg : Str → Option Value} {base : Heap} {p : Pt} {j k : Nat} {g : Nat → Bool} (V : CloV P w K mg base p j g) (h : j ≤ k) : CloV P w K mg base p k g :=
  ⟨fun i hi A outer s H I b v us vs ds Q E hr => V.run i hi A outer s H I b v us vs ds Q E (hr.mono h), V.fn, V.st⟩
/-- no function value at all -/
theorem cloV_no {P : Program} {w : World} {K : PySem.W.Frag} {mg : Str → Option Value} {base : Heap} {p : Pt} {k : Nat} {g : Nat → Bool} (h : ∀ j, g j = false → p.lam j = .no) : CloV P w K mg base p k g :=
  ⟨fun j hj A outer s H I b v us vs ds Q E _ _ _ _ _ r => (by simp only [Rp, h j hj, FV.at_] at r), fun j hj q φ e => (by rw [h j hj] at e; cases e), fun j hj f e => by rw [h j hj] at e; cases e⟩
section
variable {X : Cx} {κ : Cp} {W : WX} {e : Expr} {es : List Expr} {pos pn : Pos} {x : Str} {ts : AW} {i k k' : Nat}
/-- a function value can be called, now and later -/
theorem fn_there {I : Hp} {j : Nat} {v : V} {g : Nat → Bool} (V : CloV X.prog X.w X.K X.mg X.base κ.p k g) (hj : g j = false) (r : Rp (Sx.of X κ) I (.fn j) v) : ∃ f, v = .ref f ∧ ((∀ (pins : List (Addr × Obj)) (σ : L2.St) (H I' : Hp) (s : Shared) (b : Nat), Inv X pins σ H s → SR (Sx.of X κ) I' H b → Same I I' → PySem.W.FnAt f s.heap) ∨ PySem.W.keepIn X.K (.ref f) = true) := by
  simp only [Rp] at r
  have r : (κ.p.lam j).at_ I v := r
  cases e : κ.p.lam j with
  | no => rw [e] at r; exact r.elim
  | clo q φ =>
    rw [e] at r
    obtain ⟨f, c, rfl, h1, h2⟩ := r
    refine ⟨f, rfl, .inl fun pins σ H I' s b J sr sm => ?_⟩
    obtain ⟨h3, _, _⟩ := (show ObjOk X.prog X.w H s.heap f (.ext (φ f c)) from J.hok f _ (sr.sub _ _ (sm _ _ h1)))
    exact V.fn j hj q φ e f c _ h3
  | stat f =>
    rw [e] at r
    exact ⟨f, r, .inr (V.st j hj f e)⟩
/-- f(e, ..), f a name of a function value -/
def eCallV (g : Nat → Bool) (mir : Nat → Mir) (i : Nat) (ts : AW) : EW := fun ρ => match ρ[i]? with
  | some (.val (.fn j)) => WP.need (g j = false) (do let xs ← ts ρ; WP.need (D.nofns xs = true) (mir j xs))
  | _ => WP.bad
theorem de_callV {g : Nat → Bool} (V : CloV X.prog X.w X.K X.mg X.base κ.p k g) (hh : Cx.Hold X κ.p) (hr : Room k' X.A) (hk : k ≤ k') (hN : X.N[i]? = some x) (hv : Vis X.env.scope x) (tk : Takes X W) (ha : DA X κ W (e :: es) ts) (hdb : (x == ("__debug__" : Str)) = false := by decide) (hcd : (x == ("__classdict__" : Str)) = false := by decide)
    (he : starEach (e :: es) X.env = (false, eval e X.env) :: starEach es X.env := by rfl) (hpl : (backTo pos (starEach es X.env)).any (·.1) = false := by rfl) : DE X κ W (.Call (.Name x pn) (e :: es) [] pos) (eCallV g κ.p.mir i ts) := by
  refine ⟨fun pins s σ H Q J h => ?_⟩
  obtain ⟨I, ρ, b, sr, er, h⟩ := h
  unfold eCallV at h
  split at h
  · rename_i j hj
    obtain ⟨hgj, h⟩ := h
    have il : i < σ.length := by rw [← er.len]; exact (List.getElem?_eq_some_iff.mp hj).1
    have hs : σ[i]? = some σ[i] := List.getElem?_eq_getElem il
    obtain ⟨v, hv1, rv⟩ := er.at_ i _ _ hj hs
    obtain ⟨f, rfl, cc⟩ := fn_there V hgj rv
    rw [hv1] at hs
    refine wpAny_Call_Name_kw (thn ((pe_var (pos := pn) hN hv hdb hcd).run pins s σ H (fun v H1 => v = .ref f ∧ H1 = H) J ⟨.ref f, hs, rfl, rfl⟩) fun u s1 ⟨v, H1, J1, r1, q1⟩ => ?_)
    obtain ⟨rfl, rfl⟩ := q1
    obtain rfl : u = Value.ref f := r1
    have args : tDA (Sx.of X κ) κ W ts σ H1 (fun vs H2 => (∃ I2 b2, SR (Sx.of X κ) I2 H2 b2 ∧ Same I I2) ∧ ∀ us s2, Inv X pins σ H2 s2 → Vals vs us → wpAny (model X.prog X.w) X.A (call (.ref f) us) (EP X pins σ Q) X.xe s2) := by
      refine tDA_bind sr er h fun ds b1 vs I1 H2 x1 s1' er1 r1 h1 => ⟨⟨I1, b1, s1', x1.ii⟩, fun us s2 J2 ru => ?_⟩
      obtain ⟨f', ef, hc⟩ := V.run j hgj X.A X.stack s2 H2 I1 b1 (.ref f) us vs ds Q (fun cls d H' => W cls d σ H') (hr.mono hk) J2.env0 (hh pins σ H2 s2 J2) ru s1' (rv.same x1.ii) r1 h1.1 ((κ.p.mir j ds).mono h1.2 (fun _ _ z _ => KD.mono x1 z) fun _ _ z _ => z)
      cases ef
      refine wpAny_call (codeAny_mono hc fun r s' hq => ?_)
      cases r with
      | error e => exact passAt tk σ pins H2 s2 e s' J2 hq
      | ok fl =>
        cases fl with
        | ret u => exact J2.after hq
        | next => exact False.elim hq
        | brk => exact False.elim hq
        | cont => exact False.elim hq
    rcases cc with cc | cc
    · exact PySem.W.callWith_F (first := []) (cc pins σ H1 I s1 b J1 sr fun _ _ z => z) (thn (ha.run pos pins s1 σ H1 _ J1 args) fun us s2 ⟨vs, H2, J2, r, ⟨I2, b2, sr2, sm⟩, q⟩ => ⟨cc pins σ H2 I2 s2 b2 J2 sr2 sm, q us s2 J2 r⟩) he hpl
    · exact PySem.W.callWith_K (h₀ := X.base) J1.ok.mod.kin cc (thn (ha.run pos pins s1 σ H1 _ J1 args) fun us s2 ⟨vs, H2, J2, r, _, q⟩ => ⟨J2.kIn, q us s2 J2 r⟩) he hpl
  · exact h.elim
end
/-! ### defs that get function values -/
structure CalH (P : Program) (w : World) (K : PySem.W.Frag) (mg : Str → Option Value) (base : Heap) (p : Pt) (k : Nat) (x : Str) (n : Nat) (m : Mir) : Prop where
  ex : ∃ (f : Addr) (fd : FuncData) (ps : List Str), mg x = some (.ref f) ∧ PySem.W.keepIn K (.ref f) = true ∧ Binds K fd ps [] ∧ ps.length = n ∧
    ∀ (A : Around) (outer : List Env) (s : Shared) (H : Hp) (args : Args) (us : List Value) (vs : List V) (Q : VK) (E : XK), Room k A → Env0 P w K mg base A outer s H → BindsTo s fd args (ps.zip us) → Vals vs us → p.Cells s.heap H → vs.length = n → spD ⟨K, mg, p, w⟩ m vs H Q E →
      codeAny (model P w) A (.call (.ref f) args) (CR (L2.CX P w) outer P w H s Q E) s
theorem CalH.mono {P : Program} {w : World} {K : PySem.W.Frag} {mg : Str → Option Value} {base : Heap} {p : Pt} {j k : Nat} {x : Str} {n : Nat} {m : Mir} (c : CalH P w K mg base p j x n m) (h : j ≤ k) : CalH P w K mg base p k x n m := by
  obtain ⟨f, fd, ps, h1, h2, h3, h4, h5⟩ := c.ex
  exact ⟨f, fd, ps, h1, h2, h3, h4, fun A outer s H args us vs Q E hr => h5 A outer s H args us vs Q E (hr.mono h)⟩
section
variable {P : Program} {w : World} {K : PySem.W.Frag} {mg : Str → Option Value} {base : Heap} {p : Pt} {x : Str} {st : Stmt} {N ps : List Str} {k n : Nat} {t : SW}
theorem cal_byH {y : Str} (d : DefOkY K mg y x st ps) (S : FnScope N ps (defScope st)) (hn : ps.length = n)
    (body : ∀ (f : Addr) (κ : Cp) (cdv : Value) (A : Around) (outer : List Env) (s : Shared) (H : Hp) (E : XK), κ.p = p → Room k (A.deeper (envOfC x (defScope st) s.heap.objs.size f cdv)) → Cx.Hold (cxOf (L2.CX P w) P w K mg base N x (defScope st) f cdv A outer s H E) p →
      DSs (cxOf (L2.CX P w) P w K mg base N x (defScope st) f cdv A outer s H E) κ E (defBody st) t) : CalH P w K mg base p (k + 1) y n (bodyD N.length t) := by
  obtain ⟨f, fd, hm, F, hb⟩ := d
  have kf := F.kp
  obtain ⟨oc, od, kV, doc, pm, an, cdv, ct, osl, rfl, lk, hcd⟩ := F.ex
  refine ⟨f, _, ps, hm, kf, hb, hn, fun A outer s H args us vs Q E hr e0 hbt r hc hl h => ?_⟩
  refine run_ofS lk hcd S hr e0 hbt r (hl.trans hn.symm) fun hr' => ?_
  obtain ⟨I, b, ds, sr, rr, h⟩ := h
  refine ⟨_, body f ⟨p, I, H, 0, 0⟩ cdv A outer s H E rfl hr' (hold_of rfl hc), I, startD N.length ds, b, ⟨sr, rr.start, .refl⟩, ?_⟩
  refine (t (startD N.length ds)).mono h (fun fl b' h' => ?_) fun _ _ z cls d I' H' s' x' r' => z cls d I' H' x' s' r'
  cases fl with
  | nx ρ => exact fun σ I' H' w' _ => h' .non I' H' w'.st w'.sr (by simp [Rp])
  | rt d => exact fun v I' H' s' x' r' => h' v I' H' x' s' r'
  | bk ρ => exact h'.elim
  | ct ρ => exact h'.elim
end
section
variable {X : Cx} {κ : Cp} {W : WX} {e : Expr} {es : List Expr} {pos pn : Pos} {x : Str} {ts : AW} {m : Mir}
end
end L2.NW
end
section
set_option Elab.async false
set_option autoImplicit false
set_option linter.all false
set_option maxRecDepth 100000
set_option maxHeartbeats 4000000
/-! NyB: lambdas and inner defs are made; what a call of one is worth. -/
namespace L2.NW
open PySem PySem.Spec PyProof.Rows LamX NdefX
/-! ### a lambda is made -/
/-- a lambda's text -/
structure Lm where
  params : Arguments
  body : Expr
  scope : Scope
/-- at f stands the lambda l of the name q, made where names stand in these cells; its code stands at c -/
def LamAt (q : Str) (cells : List (Str × Addr)) (l : Lm) (f c : Addr) (h : Heap) : Prop :=
  ∃ pm ctv : Value, h.get? f = some (PySem.W.kla_obj "<lambda>" q l.params l.body l.scope (cloFrom cells l.scope.names []) pm c ctv)
theorem lamAt_ok {P : Program} {w : World} {H : Hp} {h : Heap} {q : Str} {cells : List (Str × Addr)} {l : Lm} {f c : Addr} {pm ctv : Value} (e : h.get? f = some (PySem.W.kla_obj "<lambda>" q l.params l.body l.scope (cloFrom cells l.scope.names []) pm c ctv)) :
    ObjOk P w H h f (.ext (LamAt q cells l f c)) := ⟨⟨pm, ctv, e⟩, ⟨_, e⟩, fun h1 h2 ⟨pm, ctv, e⟩ k => ⟨pm, ctv, k _ e⟩⟩
/-- a function's object is no code object -/
theorem func_ne_code {a c : Addr} {φ : Heap → Prop} {q : Str} (hd : ∀ h, φ h → PySem.W.FnAt a h) : HO.ext φ ≠ CodeO c q := fun z => by
  unfold CodeO at z
  have z' := HO.ext.inj z
  let ob : Obj := { cls := .none, data := .fields #[.none, .str q 0] }
  let h : Heap := { objs := Array.replicate (c + 1) ob }
  have hg : ∀ b o, h.get? b = some o → o = ob := fun b o e => by
    unfold Heap.get? at e
    split at e
    · cases e
    · have e' : (Array.replicate (c + 1) ob)[b]? = some o := e
      rw [Array.getElem?_replicate] at e'
      split at e'
      · exact (Option.some.inj e').symm
      · cases e'
  have hc : h.get? c = some ob := by
    unfold Heap.get?
    have e' : h.objs[c]? = some ob := by
      show (Array.replicate (c + 1) ob)[c]? = some ob
      rw [Array.getElem?_replicate, if_pos (by omega)]
    rw [e']
  have t : ∃ (oc : Obj) (vs : Array Value) (t : Tok), h.get? c = some oc ∧ oc.data = .fields vs ∧ vs[1]? = some (.str q t) := ⟨ob, #[.none, .str q 0], 0, hc, rfl, rfl⟩
  rw [← congrFun z' h] at t
  obtain ⟨oc, od, fd, sl, h1⟩ := hd h t
  have e2 : Data.func fd = Data.fields #[.none, .str q 0] := congrArg Obj.data (hg a _ h1)
  cases e2
theorem lamAt_fn {q : Str} {cells : List (Str × Addr)} {l : Lm} {f c : Addr} {h : Heap} (x : LamAt q cells l f c h) : PySem.W.FnAt f h := let ⟨_, _, e⟩ := x; ⟨_, _, _, _, e⟩
section
variable {X : Cx} {pins : List (Addr × Obj)} {σ : L2.St} {H : Hp} {s : Shared}
theorem lam_makeN {T : List NTab} {nm : Nat → Nat → Str} {c P : Addr} {l : Lm} {pos : Pos} {E : Value → Shared → Prop} {Q : Value → Shared → Prop} (I : Inv X pins σ H s) (TB : TabB X.base X.mg c P) (hcode : X.env.code = .ref c)
    (hm : (P, nm) ∈ T) (hn : nm pos.line pos.col = X.env.qual ++ "<lambda>") (hu : ∀ p ∈ T, p.1 = P → p.2 = nm) (hT : TabsN T H) (hdef : defaultsOf l.params X.env = ([], [])) (hfree : ∀ y ∈ l.scope.names, y.2 = .free → ∃ c, X.env.cells.lookup y.1 = some c)
    (h : ∀ (f c' : Addr) (H1 : Hp) (s' : Shared), Inv X pins σ (upd H1 f (.ext (LamAt (X.env.qual ++ "<lambda>") X.env.cells l f c'))) s' → ExtN H H1 → TabsN T H1 → H1 f = none → H1 c' = some (CodeO c' (X.env.qual ++ "<lambda>")) → Q (.ref f) s') : wpAny (model X.prog X.w) X.A (eval (.Lambda l.params l.body l.scope pos) X.env) Q E s := by
  obtain ⟨ps, hP, ht, ha⟩ := (show TabN H P nm from hT _ hm)
  have bP : s.heap.BuiltinsAt X.mg P := TB.bm.keeps I.bk
  have hP' : s.heap.get? P = some { cls := .none, data := .fields ps } := I.hok P _ hP
  refine PySem.W.kla_eval hdef ?_
  cases hc : codeAmong pos ps.toList with
  | some cv =>
    obtain ⟨c', rfl, hco⟩ := ha pos cv hc
    rw [hn] at hco
    refine PySem.W.kla_makeFunctionHit (mg := X.mg) (c := c) (P := P) (ps := ps) (closure_ok hfree) I.ok.glob (I.mod.glob.keeps I.bk) hcode (TB.code.keeps I.bk) hP' ht hc bP fun ctv h' tk hx hsz => ?_
    have I0 : Inv X pins σ H { s with heap := h', toks := tk } := I.kept hx
    have e1 := Heap.get?_push_size h' (o := PySem.W.kla_obj "<lambda>" (X.env.qual ++ "<lambda>") l.params l.body l.scope (cloFrom X.env.cells l.scope.names []) ((X.mg "__name__").getD .none) c' ctv) rfl
    have J := I0.laid (a := h'.objs.size) (t' := tk) (o := .ext (LamAt (X.env.qual ++ "<lambda>") X.env.cells l h'.objs.size c')) (fun b o e => Heap.get?_push_of_some _ e) (Nat.le_refl _) (lamAt_ok e1)
    exact h _ c' H _ J (ExtN.refl H) hT (I.hok.fresh hsz) hco
  | none =>
    refine PySem.W.kla_makeFunction (mg := X.mg) (c := c) (P := P) (ps := ps) (closure_ok hfree) I.ok.glob (I.mod.glob.keeps I.bk) hcode (TB.code.keeps I.bk) hP' ht hc TB.gP bP fun c' ctv h' tk hx hge hlt hrec htb => ?_
    obtain ⟨c2, oc, vs, t, e2, hoc, hd, hv⟩ := hrec
    cases e2
    have nC : H c' = none := I.hok.fresh hge
    have I0 := inv_table (t' := tk) (more := #[rawInt pos.line, rawInt pos.col, .ref c']) (h' := h') I hP hx htb hge ⟨oc, vs, t, hoc, hd, hv⟩
    generalize hH1 : upd (upd H P (.tbl (ps ++ #[rawInt pos.line, rawInt pos.col, .ref c']))) c' (CodeO c' (X.env.qual ++ "<lambda>")) = H1 at I0
    have eL : (ps ++ #[rawInt pos.line, rawInt pos.col, .ref c']).toList = ps.toList ++ [rawInt pos.line, rawInt pos.col, .ref c'] := by simp
    have hE : ExtN H H1 := fun b o e n => by
      rw [← hH1, upd_ne (ne_of_none e nC), upd_ne (fun z => n ps (Option.some.inj (e.symm.trans (by rw [z]; exact hP))))]
      exact e
    have hC1 : H1 c' = some (CodeO c' (X.env.qual ++ "<lambda>")) := by rw [← hH1]; exact upd_same
    have hP1 : H1 P = some (.tbl (ps ++ #[rawInt pos.line, rawInt pos.col, .ref c'])) := by rw [← hH1, upd_ne (ne_of_none hP nC), upd_same]
    have hT1 : TabsN T H1 := fun p hp => by
      by_cases hb : p.1 = P
      · rw [hu p hp hb, hb]
        refine ⟨_, hP1, by rw [eL]; exact PySem.TriplesOk_snoc _ _ _ _ ht, fun p' cv hcv => ?_⟩
        rw [eL] at hcv
        rcases among_app2 _ ht hcv with z | ⟨z, z1, z2⟩
        · obtain ⟨c0, d1, d2⟩ := ha p' cv z
          exact ⟨c0, d1, hE _ _ d2 codeO_ne⟩
        · exact ⟨c', z, by rw [← z1, ← z2, hn]; exact hC1⟩
      · obtain ⟨ps', a1, a2, a3⟩ := hT p hp
        refine ⟨ps', by rw [← hH1, upd_ne (ne_of_none a1 nC), upd_ne hb]; exact a1, a2, fun p' cv hcv => ?_⟩
        obtain ⟨c0, d1, d2⟩ := a3 p' cv hcv
        exact ⟨c0, d1, hE _ _ d2 codeO_ne⟩
    have e1 := Heap.get?_push_size h' (o := PySem.W.kla_obj "<lambda>" (X.env.qual ++ "<lambda>") l.params l.body l.scope (cloFrom X.env.cells l.scope.names []) ((X.mg "__name__").getD .none) c' ctv) rfl
    have J := I0.laid (a := h'.objs.size) (t' := tk) (o := .ext (LamAt (X.env.qual ++ "<lambda>") X.env.cells l h'.objs.size c')) (fun b o e => Heap.get?_push_of_some _ e) (Nat.le_refl _) (lamAt_ok e1)
    exact h _ c' H1 _ J hE hT1 (I0.hok.fresh (Nat.le_refl _)) hC1
end
/-- the words of a lambda as a function's -/
def NF.lam (q : Str) (cells : List (Str × Addr)) (l : Lm) (c : Addr) : NF := ⟨"<lambda>", q, l.params, [], l.scope, cloFrom cells l.scope.names [], c⟩
def fnP (f : Addr) (F : NF) : Heap → Prop := fun h => ∃ (od : Option Addr) (sl : Array (Option Value)) (doc pm ctv : Value), h.get? f = some (⟨.type "function", od, .func (F.fd doc pm ctv), sl⟩ : Obj)
theorem fnP_fn {f : Addr} {F : NF} {h : Heap} (x : fnP f F h) : PySem.W.FnAt f h := let ⟨_, _, _, _, _, e⟩ := x; ⟨_, _, _, _, e⟩
section
variable {X : Cx} {κ : Cp} {W : WX} {E : XK}
/-- a lambda as a value: the j-th one -/
theorem de_lamN {c P : Addr} {j : Nat} {nm : Nat → Nat → Str} {params : Arguments} {body : Expr} {scope : Scope} {pos : Pos} (TB : TabB X.base X.mg c P) (hcode : X.env.code = .ref c) (hm : (P, nm) ∈ κ.p.T) (hn : nm pos.line pos.col = X.env.qual ++ "<lambda>") (hu : ∀ p ∈ κ.p.T, p.1 = P → p.2 = nm)
    (hl : κ.p.lam j = .clo (X.env.qual ++ "<lambda>") (LamAt (X.env.qual ++ "<lambda>") X.env.cells ⟨params, body, scope⟩)) (hdef : defaultsOf params X.env = ([], [])) (hfree : ∀ y ∈ scope.names, y.2 = .free → X.env.scope.names.lookup y.1 = some .cell ∨ X.env.scope.names.lookup y.1 = some .free) : DE X κ W (.Lambda params body scope pos) (eC (.fn j)) :=
  ⟨fun pins s σ H Q J ⟨I, ρ, b, sr, er, h⟩ => lam_makeN (l := ⟨params, body, scope⟩) J TB hcode hm hn hu sr.tb hdef (fun y hy e => (hfree y hy e).elim (fun z => J.ok.has _ (.inl z)) fun z => J.ok.has _ (.inr z)) fun f c' H1 s' J1 e t n k => by
    obtain ⟨x1, s1⟩ := sr.lam e t
    refine ⟨.ref f, _, J1, rfl, h (.ref f) _ _ (x1.trans (.new s1.sub n)) (s1.newE n fun q => func_ne_code fun h x => lamAt_fn x) ?_⟩
    have nf : c' ≠ f := fun z => by rw [z, n] at k; cases k
    simp only [Rp]
    show (κ.p.lam j).at_ _ _
    rw [hl]
    exact ⟨f, c', rfl, upd_same, by rw [upd_ne nf]; exact s1.cd _ _ k⟩⟩
/-- def name(..): .. within a def: the j-th one -/
theorem ds_ndef {st : Stmt} {nm : Nat → Nat → Str} {c P : Addr} {name : Str} {pos : Pos} {i j : Nat} (hst : st = .FunctionDef name (C8.fnArgs st) (C8.fnBody st) [] none [] (C8.fnScope st) none name pos) (TB : TabB X.base X.mg c P) (hcode : X.env.code = .ref c) (hm : (P, nm) ∈ κ.p.T) (hn : nm pos.line pos.col = X.env.qual ++ name)
    (hu : ∀ p ∈ κ.p.T, p.1 = P → p.2 = nm) (hl : κ.p.lam j = .clo (X.env.qual ++ name) (fun f c => fnP f (NF.of st name (X.env.qual ++ name) (cloFrom X.env.cells (C8.fnScope st).names []) c)))
    (hfree : ∀ y ∈ (C8.fnScope st).names, y.2 = .free → X.env.scope.names.lookup y.1 = some .cell ∨ X.env.scope.names.lookup y.1 = some .free) (hd0 : (C8.fnArgs st).defaults = []) (hk0 : (C8.fnArgs st).kw_defaults = []) (ha : annTrees (C8.fnArgs st) none X.env = [])
    (hN : X.N.Nodup) (hi : X.N[i]? = some name) (hx : Loc X.env.scope name) (hf : X.fn name = true ∨ X.env.scope.names.lookup name = some .local) : DS X κ E st (sSet i (eC (.fn j))) :=
  PS.imp (ps_ndefS hst TB hcode hm hn hu hfree hd0 hk0 ha hN hi hx hf) fun D σ H ⟨I, ρ, b, w, h⟩ => by
    refine ⟨w.sr.tb, fun f c' H1 e t hf0 hf1 hc1 => ?_⟩
    obtain ⟨x1, s1⟩ := w.sr.lam e t
    have nc : ∀ q, FnO f (NF.of st name (X.env.qual ++ name) (cloFrom X.env.cells (C8.fnScope st).names []) c') ≠ CodeO f q := fun q => func_ne_code (a := f) fun h x => fnP_fn (F := NF.of st name (X.env.qual ++ name) (cloFrom X.env.cells (C8.fnScope st).names []) c') x
    have nt : ¬ Nt H f := not_nt hf0
    have hI : moreI I H H1 f = none := by
      unfold moreI
      rw [w.sr.sub.free hf0]
      simp only [nt, if_false]
      rw [if_neg]
      rintro ⟨q, z⟩
      rw [hf1] at z
      exact nc q (Option.some.inj z)
    have hp : f ≠ (Sx.of X κ).p.a := w.sr.pne nt
    have s2 := s1.freeze hf1 hI hp ⟨id, fun c q => func_ne_code (a := f) fun h x => fnP_fn (F := NF.of st name (X.env.qual ++ name) (cloFrom X.env.cells (C8.fnScope st).names []) c') x⟩
    have x2 := x1.freeze (o := FnO f (NF.of st name (X.env.qual ++ name) (cloFrom X.env.cells (C8.fnScope st).names []) c')) nt hI
    have w2 := w.stp x2 s2
    refine h _ _ H1 ⟨s2, w2.er.setVal (v := .ref f) ?_, w2.st⟩ x2.ii
    have nf : c' ≠ f := fun z => by
      rw [z, hf1] at hc1
      exact nc _ (Option.some.inj hc1)
    simp only [Rp]
    show (κ.p.lam j).at_ _ _
    rw [hl]
    exact ⟨f, c', rfl, upd_same, by rw [upd_ne nf]; exact s1.cd _ _ hc1⟩
end
end L2.NW
end
section
set_option Elab.async false
set_option autoImplicit false
set_option linter.all false
set_option maxRecDepth 100000
set_option maxHeartbeats 4000000
/-! NyC: calls of lambdas and inner defs; defs that hand on such values. -/
namespace L2.NW
open PySem PySem.Spec PyProof.Rows LamX NdefX
section
variable {CX : CXT} {P : Program} {w : World} {K : PySem.W.Frag} {mg : Str → Option Value} {base : Heap} {N ps fr : List Str} {F : NF} {f : Addr} {A : Around} {outer : List Env} {s : Shared} {H : Hp} {E : XK} {us : List Value} {vs : List V} {ws : List (Option V)} {Q : VK} {k : Nat}
/-- an inner def runs, told of the very state -/
theorem ncall_of (S : NScope N ps fr F.scope) (hb : ∀ (doc pm ctv : Value) (us : List Value), us.length = ps.length → bindArgs (F.fd doc pm ctv) ⟨us, []⟩ = pure (ps.zip us)) (hr : Room (k + 1) A) (e0 : Env0 P w K mg base A outer s H) (hf : H f = some (FnO f F)) (hc : H F.c = some (CodeO F.c F.qual))
    (C : CellsAt F.cl fr ws s.heap H) (r : Vals vs us) (hl : vs.length = ps.length) (hbody : Room k (A.deeper (envF F f s.heap.objs.size)) → ∃ t, PSs (ncx CX P w K mg base N F f A outer s H E) F.body t ∧ t { nx := fun _ H' => Q .non H', rt := Q } (startF N vs ws) H) :
    codeAny (model P w) A (.call (.ref f) ⟨us, []⟩) (CR CX outer P w H s Q E) s := by
  have lim : s.heap.NoLimit := e0.mod.nolimit.keeps fun b o e => (e0.bs b o e).1
  obtain ⟨od, sl, doc, pm, ctv, ho⟩ := fnO_at e0.hok hf
  refine codeAny_call_function hr.depth ho rfl S.co S.gen rfl (codeO_at e0.hok hc) ?_
  rw [hb doc pm ctv us (by rw [← r.length]; exact hl)]
  refine wpAny_pure (wpAny_newFunctionEnv S.nocell (fun ⟨n, _⟩ hy => S.par n (List.of_mem_zip hy).1) (fun h₁ hns hsb => ⟨lim.fresh _ hsb, codeAny_func ?_⟩) S.kind)
  have kp : ∀ b o, s.heap.get? b = some o → h₁.get? b = some o := fun b o e => hsb.extBut b o (Nat.ne_of_lt (Heap.lt_size e)) (Heap.get?_push_of_some _ e)
  obtain ⟨t, ht, hq⟩ := hbody (hr.deeper _)
  have J : Inv (ncx CX P w K mg base N F f A outer s H E) [] (startF N vs ws) H { s with heap := h₁, toks := s.toks + (ps.zip us).length } := inv_startN S hr.hd e0 hl r C hns kp
  have fin : ∀ {s' : Shared} {σ' : L2.St} {H' : Hp} {v : V} {u : Value}, Inv (ncx CX P w K mg base N F f A outer s H E) [] σ' H' s' → L2.RelV v u → Q v H' → CE outer P w H s Q u s' := fun J rv q => ⟨_, _, J.os, J.bare, J.base, J.hok, rv, q⟩
  refine wpAny_mono (ht.run [] _ (startF N vs ws) H _ J hq) (fun fl s' hs => ?_) fun e s' hs => hs
  cases fl with
  | ret u => obtain ⟨v, σ', H', J', rv, q⟩ := hs; exact fin J' rv q
  | next => obtain ⟨σ', H', J', q⟩ := hs; exact fin (v := V.non) (u := Value.none) J' rfl q
  | brk => obtain ⟨_, _, _, q⟩ := hs; exact q.elim
  | cont => obtain ⟨_, _, _, q⟩ := hs; exact q.elim
/-- a lambda runs -/
theorem lcall_of {q : Str} {cells : List (Str × Addr)} {l : Lm} {c : Addr} (S : NScope N ps fr l.scope) (hb : ∀ (cl : List (Str × Addr)) (pm cv ctv : Value) (us : List Value), us.length = ps.length → bindArgs (PySem.W.kla_fn "<lambda>" q l.params l.body l.scope cl pm cv ctv) ⟨us, []⟩ = pure (ps.zip us)) (hr : Room (k + 1) A) (e0 : Env0 P w K mg base A outer s H)
    (hf : H f = some (.ext (LamAt q cells l f c))) (hc : H c = some (CodeO c q)) (C : CellsAt (NF.lam q cells l c).cl fr ws s.heap H) (r : Vals vs us) (hl : vs.length = ps.length)
    (hbody : Room k (A.deeper (envF (NF.lam q cells l c) f s.heap.objs.size)) → ∃ t, PE (ncx CX P w K mg base N (NF.lam q cells l c) f A outer s H E) l.body t ∧ t (startF N vs ws) H Q) :
    codeAny (model P w) A (.call (.ref f) ⟨us, []⟩) (CR CX outer P w H s Q E) s := by
  have lim : s.heap.NoLimit := e0.mod.nolimit.keeps fun b o e => (e0.bs b o e).1
  obtain ⟨⟨pm, ctv, ho⟩, _, _⟩ := (show ObjOk P w H s.heap f (.ext (LamAt q cells l f c)) from e0.hok f _ hf)
  refine PySem.W.kla_callFunE hr.depth ho rfl S.co S.gen rfl (codeO_at e0.hok hc) ?_
  rw [hb _ _ _ _ us (by rw [← r.length]; exact hl)]
  refine wpAny_pure (wpAny_newFunctionEnv S.nocell (fun ⟨n, _⟩ hy => S.par n (List.of_mem_zip hy).1) (fun h₁ hns hsb => ⟨lim.fresh _ hsb, ?_⟩) S.kind)
  show codeAny _ _ (.expr l.body (envF (NF.lam q cells l c) f s.heap.objs.size)) _ _
  have kp : ∀ b o, s.heap.get? b = some o → h₁.get? b = some o := fun b o e => hsb.extBut b o (Nat.ne_of_lt (Heap.lt_size e)) (Heap.get?_push_of_some _ e)
  obtain ⟨t, ht, hq⟩ := hbody (hr.deeper _)
  have J : Inv (ncx CX P w K mg base N (NF.lam q cells l c) f A outer s H E) [] (startF N vs ws) H { s with heap := h₁, toks := s.toks + (ps.zip us).length } := inv_startN (F := NF.lam q cells l c) S hr.hd e0 hl r C hns kp
  exact PySem.W.kla_codeExpr (wpAny_mono (ht.run [] _ (startF N vs ws) H Q J hq) (fun v s' ⟨w', H', J', rv, q⟩ => ⟨w', H', J'.os, J'.bare, J'.base, J'.hok, rv, q⟩) fun e s' hq => hq)
end
/-! ### what a closure is worth -/
namespace WP
/-- what comes, an error too, holds no function value -/
def nofnx (m : WP D) : WP D := ⟨fun b Q E => m.run b (fun d b' => d.nofn = true ∧ Q d b') (fun x b' => D.nofns x.vs = true ∧ E x b'), fun h hq he => m.mono h (fun d b z => ⟨z.1, hq _ _ z.2⟩) fun x b z => ⟨z.1, he _ _ z.2⟩⟩
@[simp] theorem run_nofnx (m : WP D) (b Q E) : (nofnx m).run b Q E = m.run b (fun d b' => d.nofn = true ∧ Q d b') (fun x b' => D.nofns x.vs = true ∧ E x b') := rfl
theorem nofnx_pure {d : D} (h : d.nofn = true) : nofnx (Pure.pure d) = Pure.pure d := by
  ext b Q E
  exact ⟨fun z => z.2, fun z => ⟨h, z⟩⟩
theorem nofnx_raise {x : Ex} (h : D.nofns x.vs = true) : nofnx (raise x) = raise x := by
  ext b Q E
  exact ⟨fun z => z.2, fun z => ⟨h, z⟩⟩
end WP
/-- what a closure got -/
def capsD (js : List Nat) (ρ : Env') : List Sl := js.map fun i => match (ρ[i]? : Option Sl) with
  | some (.val d) => Sl.val d
  | _ => Sl.no
def startC (n : Nat) (ds : List D) (cs : List Sl) : Env' := ds.map Sl.val ++ (cs ++ List.replicate (n - ds.length - cs.length) .no)
def cloE (n nps : Nat) (js : List Nat) (te : EW) : Env' → Mir := fun ρ ds => WP.need (ds.length = nps) (WP.nofnx (te (startC n ds (capsD js ρ))))
def cloS (n nps : Nat) (js : List Nat) (t : SW) : Env' → Mir := fun ρ ds => WP.need (ds.length = nps) (WP.nofnx (do
  let f ← t (startC n ds (capsD js ρ))
  match f with
  | .nx _ => pure .non
  | .rt d => pure d
  | _ => WP.bad))
theorem startC_er {S : Sx} {κ κ0 : Cp} {I I0 H H0 : Hp} {ρ0 : Env'} {σ0 : St} {ds : List D} {vs : List V} {N : List Str} {js : List Nat} (r : Rps S I ds vs) (er : ER S κ0 I0 H0 ρ0 σ0) (sm : Same I0 I) : ER S κ I H (startC N.length ds (capsD js ρ0)) (startF N vs (js.map (NdefX.slotAt σ0))) := by
  have hl := r.len
  have hc : (capsD js ρ0).length = js.length := by simp [capsD]
  have noown : ∀ (i : Nat) (t : Sl), (startC N.length ds (capsD js ρ0))[i]? = some t → t.isOwn = false := fun i t h => by
    unfold startC at h
    have hm := List.mem_of_getElem? h
    rcases List.mem_append.mp hm with hm | hm
    · obtain ⟨d, _, rfl⟩ := List.mem_map.mp hm; rfl
    · rcases List.mem_append.mp hm with hm | hm
      · obtain ⟨i, _, rfl⟩ := List.mem_map.mp hm
        split <;> rfl
      · rw [(List.mem_replicate.mp hm).2]; rfl
  refine ⟨by simp [startC, startF, hl, hc], fun i t o h1 h2 => ?_, fun i j t u a h1 _ o1 _ _ _ => by rw [noown i t h1] at o1; cases o1⟩
  unfold startC at h1
  unfold startF at h2
  by_cases hi : i < ds.length
  · rw [List.getElem?_append_left (by simpa using hi), List.getElem?_map] at h1
    rw [List.getElem?_append_left (by simpa [← hl] using hi), List.getElem?_map] at h2
    cases e : ds[i]? with
    | none => rw [e] at h1; cases h1
    | some d =>
      rw [e] at h1
      cases h1
      obtain ⟨v, h3, h4⟩ := r.get e
      rw [h3] at h2
      cases h2
      exact ⟨v, rfl, h4⟩
  · rw [List.getElem?_append_right (by simpa using hi), List.length_map] at h1
    rw [List.getElem?_append_right (by simpa [← hl] using hi)] at h2
    simp only [List.length_map, ← hl] at h2
    by_cases hj : i - ds.length < js.length
    · rw [List.getElem?_append_left (by rw [hc]; exact hj)] at h1
      rw [List.getElem?_append_left (by simpa using hj), List.getElem?_map] at h2
      unfold capsD at h1
      rw [List.getElem?_map] at h1
      cases e : js[i - ds.length]? with
      | none => rw [e] at h1; cases h1
      | some j =>
        rw [e] at h1 h2
        cases h1
        cases h2
        dsimp only
        split
        · rename_i d hd
          have jl : j < σ0.length := by rw [← er.len]; exact (List.getElem?_eq_some_iff.mp hd).1
          have hs : σ0[j]? = some σ0[j] := List.getElem?_eq_getElem jl
          obtain ⟨v, hv, rv⟩ := er.at_ j _ _ hd hs
          rw [hv] at hs
          exact ⟨v, slotAt_of hs, rv.same sm⟩
        · trivial
    · rw [List.getElem?_append_right (by rw [hc]; omega), List.getElem?_replicate] at h1
      split at h1
      · cases h1; trivial
      · cases h1
/-- the j-th function value of the def that runs in X -/
structure CloB (X : Cx) (κ : Cp) (k : Nat) (j : Nat) (m : Env' → Mir) : Prop where
  run : ∀ (I0 H0 : Hp) (ρ0 : Env') (σ0 : L2.St), ER (Sx.of X κ) κ I0 H0 ρ0 σ0 → ∃ qs : List CapQ, (∀ (pins : List (Addr × Obj)) (s : Shared), Inv X pins σ0 H0 s → ∀ q ∈ qs, CellsAt q.cl q.fr q.ws s.heap H0) ∧
    ∀ (A : Around) (outer : List Env) (s : Shared) (H I : Hp) (b : Nat) (v : V) (us : List Value) (vs : List V) (ds : List D) (Q : VK) (E : XK), Room k A → Env0 X.prog X.w X.K X.mg X.base A outer s H → (∀ q ∈ qs, CellsAt q.cl q.fr q.ws s.heap H) → κ.p.Cells s.heap H → Vals vs us → SR (Sx.of X κ) I H b → Same I0 I → Rp (Sx.of X κ) I (.fn j) v → Rps (Sx.of X κ) I ds vs → D.nofns ds = true →
      (m ρ0 ds).run b (fun d b' => d.nofn = true → KD (Sx.of X κ) I H Q d b') (fun x b' => D.nofns x.vs = true → KX (Sx.of X κ) I H E x b') → ∃ f, v = .ref f ∧ codeAny (model X.prog X.w) A (.call (.ref f) ⟨us, []⟩) (CR (L2.CX X.prog X.w) outer X.prog X.w H s Q E) s
  fn : ∀ q φ, κ.p.lam j = .clo q φ → ∀ f c h, φ f c h → PySem.W.FnAt f h
  st : ∀ f, κ.p.lam j = .stat f → PySem.W.keepIn X.K (.ref f) = true
section
variable {X : Cx} {κ : Cp} {N ps fr : List Str} {js : List Nat} {j k : Nat}
theorem cloB_lam {l : Lm} {te : EW} (hl : κ.p.lam j = .clo (X.env.qual ++ "<lambda>") (LamAt (X.env.qual ++ "<lambda>") X.env.cells l)) (S : NScope N ps fr l.scope) (hb : ∀ (q : Str) (cl : List (Str × Addr)) (pm cv ctv : Value) (us : List Value), us.length = ps.length → bindArgs (PySem.W.kla_fn "<lambda>" q l.params l.body l.scope cl pm cv ctv) ⟨us, []⟩ = pure (ps.zip us))
    (hd : ndefB X.env.scope l.scope fr = true) (hjs : js.map (fun j => X.N[j]?) = fr.map some)
    (body : ∀ (f c' : Addr) (κ' : Cp) (A : Around) (outer : List Env) (s : Shared) (H : Hp) (E : XK), κ'.p = κ.p → Room k (A.deeper (envF (NF.lam (X.env.qual ++ "<lambda>") X.env.cells l c') f s.heap.objs.size)) → Cx.Hold (ncx (L2.CX X.prog X.w) X.prog X.w X.K X.mg X.base N (NF.lam (X.env.qual ++ "<lambda>") X.env.cells l c') f A outer s H E) κ'.p →
      DE (ncx (L2.CX X.prog X.w) X.prog X.w X.K X.mg X.base N (NF.lam (X.env.qual ++ "<lambda>") X.env.cells l c') f A outer s H E) κ' (wOf E) l.body te) : CloB X κ (k + 1) j (cloE N.length ps.length js te) := by
  refine ⟨fun I0 H0 ρ0 σ0 er => ⟨[⟨cloFrom X.env.cells l.scope.names [], fr, js.map (NdefX.slotAt σ0)⟩], fun pins s J q hq => ?_, fun A outer s H I b v us vs ds Q E hr e0 hqs hp ru sr sm rv rds hnf h => ?_⟩, fun q φ e f c h x => ?_, fun f e => by rw [hl] at e; cases e⟩
  · rw [List.mem_singleton.mp hq]
    exact cells_of J (Caps.made J.ok (ndef_free hd) (ndef_fr hd) hjs)
  · simp only [Rp] at rv
    have rv : (κ.p.lam j).at_ I v := rv
    rw [hl] at rv
    obtain ⟨f, c, rfl, h1, h2⟩ := rv
    obtain ⟨hlen, h⟩ := h
    refine ⟨f, rfl, lcall_of S (fun cl pm cv ctv us => hb _ cl pm cv ctv us) hr e0 (sr.sub _ _ h1) (sr.sub _ _ h2) (hqs _ (List.mem_singleton.mpr rfl)) ru (by rw [← rds.len]; exact hlen) fun hr' => ?_⟩
    refine ⟨_, body f c ⟨κ.p, I, H, 0, 0⟩ A outer s H E rfl hr' (hold_of rfl hp), I, startC N.length ds (capsD js ρ0), b, sr, startC_er rds er sm, ?_⟩
    exact (te _).mono h (fun d b' z => z.2 z.1) fun x b' z => z.2 z.1
  · rw [hl] at e
    cases e
    exact lamAt_fn x
theorem cloB_def {st : Stmt} {name : Str} {t : SW} (hl : κ.p.lam j = .clo (X.env.qual ++ name) (fun f c => fnP f (NF.of st name (X.env.qual ++ name) (cloFrom X.env.cells (C8.fnScope st).names []) c))) (S : NScope N ps fr (C8.fnScope st))
    (hb : ∀ (q : Str) (cl : List (Str × Addr)) (c : Addr) (doc pm ctv : Value) (us : List Value), us.length = ps.length → bindArgs ((NF.of st name q cl c).fd doc pm ctv) ⟨us, []⟩ = pure (ps.zip us)) (hd : ndefB X.env.scope (C8.fnScope st) fr = true) (hjs : js.map (fun j => X.N[j]?) = fr.map some)
    (body : ∀ (f c' : Addr) (κ' : Cp) (A : Around) (outer : List Env) (s : Shared) (H : Hp) (E : XK), κ'.p = κ.p → Room k (A.deeper (envF (NF.of st name (X.env.qual ++ name) (cloFrom X.env.cells (C8.fnScope st).names []) c') f s.heap.objs.size)) → Cx.Hold (ncx (L2.CX X.prog X.w) X.prog X.w X.K X.mg X.base N (NF.of st name (X.env.qual ++ name) (cloFrom X.env.cells (C8.fnScope st).names []) c') f A outer s H E) κ'.p →
      DSs (ncx (L2.CX X.prog X.w) X.prog X.w X.K X.mg X.base N (NF.of st name (X.env.qual ++ name) (cloFrom X.env.cells (C8.fnScope st).names []) c') f A outer s H E) κ' E (C8.fnBody st) t) : CloB X κ (k + 1) j (cloS N.length ps.length js t) := by
  refine ⟨fun I0 H0 ρ0 σ0 er => ⟨[⟨cloFrom X.env.cells (C8.fnScope st).names [], fr, js.map (NdefX.slotAt σ0)⟩], fun pins s J q hq => ?_, fun A outer s H I b v us vs ds Q E hr e0 hqs hp ru sr sm rv rds hnf h => ?_⟩, fun q φ e f c h x => ?_, fun f e => by rw [hl] at e; cases e⟩
  · rw [List.mem_singleton.mp hq]
    exact cells_of J (Caps.made J.ok (ndef_free hd) (ndef_fr hd) hjs)
  · simp only [Rp] at rv
    have rv : (κ.p.lam j).at_ I v := rv
    rw [hl] at rv
    obtain ⟨f, c, rfl, h1, h2⟩ := rv
    obtain ⟨hlen, h⟩ := h
    refine ⟨f, rfl, ncall_of (F := NF.of st name (X.env.qual ++ name) (cloFrom X.env.cells (C8.fnScope st).names []) c) S (fun doc pm ctv us => hb _ _ _ doc pm ctv us) hr e0 (sr.sub _ _ h1) (sr.sub _ _ h2) (hqs _ (List.mem_singleton.mpr rfl)) ru (by rw [← rds.len]; exact hlen) fun hr' => ?_⟩
    refine ⟨_, body f c ⟨κ.p, I, H, 0, 0⟩ A outer s H E rfl hr' (hold_of rfl hp), I, startC N.length ds (capsD js ρ0), b, ⟨sr, startC_er rds er sm, .refl⟩, ?_⟩
    refine (t _).mono h (fun fl b' z => ?_) fun x b' z cls d I' H' s' x' r' => z.2 z.1 cls d I' H' x' s' r'
    cases fl with
    | nx ρ => exact fun σ I' H' w' _ => z.2 z.1 .non I' H' w'.st w'.sr (by simp [Rp])
    | rt d => exact fun v I' H' s' x' r' => z.2 z.1 v I' H' x' s' r'
    | bk ρ => exact z.elim
    | ct ρ => exact z.elim
  · rw [hl] at e
    cases e
    exact fnP_fn x
/-- a def of the module as a function value -/
theorem cloB_stat {f : Addr} {x : Str} {n : Nat} {m : Mir} (hl : κ.p.lam j = .stat f) (hm : X.mg x = some (.ref f)) (c : Cal X.prog X.w X.K X.mg X.base κ.p k x n m) : CloB X κ k j (fun _ ds => WP.need (ds.length = n) (WP.nofnx (m ds))) := by
  obtain ⟨f', fd, ps, h1, h2, h3, h4, h5⟩ := c.ex
  cases hm.symm.trans h1
  refine ⟨fun I0 H0 ρ0 σ0 er => ⟨[], fun pins s J q hq => (nomatch hq), fun A outer s H I b v us vs ds Q E hr e0 hqs hp ru sr sm rv rds hnf h => ?_⟩, fun q φ e => (by rw [hl] at e; cases e), fun g e => by rw [hl] at e; cases e; exact h2⟩
  simp only [Rp] at rv
  have rv : (κ.p.lam j).at_ I v := rv
  rw [hl] at rv
  obtain ⟨hlen, h⟩ := h
  have lv : vs.length = n := by rw [← rds.len]; exact hlen
  refine ⟨f, rv, h5.run A outer s H ⟨us, []⟩ us vs Q E hr e0 (by
    have KX : X.K.In s.heap := e0.mod.kin.keeps fun b o e => (e0.bs b o e).1
    have z := h3 s us KX (by rw [List.append_nil, ← ru.length, lv, h4])
    rwa [List.append_nil] at z) ru ⟨lv, I, b, ds, sr, rds, (m ds).mono h (fun d b' z => z.2 z.1) fun x b' z => z.2 z.1⟩⟩
end
end L2.NW
end
section
set_option Elab.async false
set_option autoImplicit false
set_option linter.all false
set_option maxRecDepth 100000
set_option maxHeartbeats 4000000
/-! NyD: defs that make function values and hand them on. -/
namespace L2.NW
open PySem PySem.Spec PyProof.Rows LamX NdefX
/-- the function values that a call hands on: one's own, then those that one got -/
def mixM (own : List (Nat × (Env' → Mir))) (ρ : Env') (Φ : Nat → Mir) : Nat → Mir := fun j => match own.lookup j with
  | some m => m ρ
  | none => Φ j
def isIn (own : List (Nat × (Env' → Mir))) : Nat → Bool := fun j => (own.lookup j).isSome
theorem lookup_mem {α : Type} {l : List (Nat × α)} {j : Nat} {m : α} (h : l.lookup j = some m) : (j, m) ∈ l := by
  induction l with
  | nil => cases h
  | cons p l ih =>
    obtain ⟨i, n⟩ := p
    rw [List.lookup_cons] at h
    split at h
    · rename_i e
      cases h
      rw [beq_iff_eq.mp e]; exact List.mem_cons_self ..
    · exact List.mem_cons_of_mem _ (ih h)
section
variable {X : Cx} {κ : Cp} {W : WX} {e : Expr} {es : List Expr} {pos pn : Pos} {x : Str} {ts : AW}
theorem sr_to {S S' : Sx} {I H : Hp} {b : Nat} (h1 : S'.p.a = S.p.a) (h2 : S'.p.T = S.p.T) (ci : Same S'.p.i0 I) (s : SR S I H b) : SR S' I H b := by
  obtain ⟨ca, q, e1, e2, ok⟩ := s.pen
  exact ⟨s.sub, by rw [h1]; exact s.pn, ⟨ca, q, by rw [h1]; exact e1, e2, ok⟩, by rw [h2]; exact s.tb, s.nt, s.cd, ci⟩
theorem stp_to {S S' : Sx} {I H I' H' : Hp} (h1 : S'.p.a = S.p.a) (x : Stp S I H I' H') : Stp S' I H I' H' := ⟨x.ii, by rw [h1]; exact x.hh, x.nn, x.tt⟩
theorem xr_to {g : Nat → Bool} {S S' : Sx} {I : Hp} {x : Ex} {cls : Value} {d : Option Addr} (h1 : S'.K = S.K) (h2 : S'.mg = S.mg) (h3 : S'.p.a = S.p.a) (h4 : S'.w = S.w) (h5 : ∀ j, g j = false → S'.p.lam j = S.p.lam j) (n : D.nofws g x.vs = true) (h : XR S I x cls d) : XR S' I x cls d := by
  obtain ⟨C, dd, vs, g1, g2, g3, g4, g5, g6⟩ := h
  exact ⟨C, dd, vs, by rw [h2]; exact g1, g2, g3, g4, g5, Rps.to h1 h2 h3 h4 h5 n g6⟩
theorem all_stay {α : Type} {ms : List α} {P : α → List CapQ → Prop} (h : ∀ m ∈ ms, ∃ qs, P m qs) : ∃ L : List (α × List CapQ), L.map (·.1) = ms ∧ ∀ z ∈ L, P z.1 z.2 := by
  induction ms with
  | nil => exact ⟨[], rfl, fun z hz => nomatch hz⟩
  | cons m ms ih =>
    obtain ⟨qs, h1⟩ := h m (List.mem_cons_self ..)
    obtain ⟨L, e, h2⟩ := ih fun m' hm => h m' (List.mem_cons_of_mem _ hm)
    refine ⟨(m, qs) :: L, by rw [List.map_cons, e], fun z hz => ?_⟩
    rcases List.mem_cons.mp hz with rfl | hz
    · exact h1
    · exact h2 z hz
/-- f(e, ..), f a def that gets function values; own: those that were made here -/
theorem de_callH {j k n kc : Nat} {own : List (Nat × (Env' → Mir))} {M : (Nat → Mir) → Mir} (c : ∀ p' : Pt, p'.T = κ.p.T → CloV X.prog X.w X.K X.mg X.base p' kc → CalH X.prog X.w X.K X.mg X.base p' j x n (M p'.mir)) (ho : ∀ q ∈ own, CloB X κ kc q.1 q.2) (hV : CloV X.prog X.w X.K X.mg X.base κ.p kc (isIn own)) (hh : Cx.Hold X κ.p)
    (hr : Room k X.A) (hj : j ≤ k) (hg : Gl X x) (tk : Takes X W) (ha : DA X κ W (e :: es) ts) (hn : (e :: es).length = n := by rfl) (hdb : (x == ("__debug__" : Str)) = false := by decide)
    (he : starEach (e :: es) X.env = (false, eval e X.env) :: starEach es X.env := by rfl) (hpl : (backTo pos (starEach es X.env)).any (·.1) = false := by rfl) :
    DE X κ W (.Call (.Name x pn) (e :: es) [] pos) (fun ρ => do let xs ← ts ρ; WP.need (xs.length = n) (M (mixM own ρ κ.p.mir) xs)) := by
  have h0 := (c { κ.p with lam := fun _ => .no } rfl (cloV_no fun _ _ => rfl)).ex
  obtain ⟨f, fd, ps, h1, h2, _⟩ := h0
  refine ⟨fun pins s σ H Q J h => ?_⟩
  obtain ⟨I, ρ, b, sr, er, h⟩ := h
  refine wpAny_Call_Name_kw (ld_glob J hg h1 ?_ hdb)
  have args : tDA (Sx.of X κ) κ W ts σ H (fun vs H2 => ∀ us s2, Inv X pins σ H2 s2 → Vals vs us → wpAny (model X.prog X.w) X.A (call (.ref f) us) (EP X pins σ Q) X.xe s2) := by
    refine tDA_bind sr er h fun ds b1 vs I1 H2 x1 s1' er1 r1 hm us s2 J2 ru => ?_
    have hl : vs.length = n := by rw [← r1.len]; exact hm.1
    -- what the cells of one's own hold
    obtain ⟨L, eL, hL⟩ := all_stay (ms := own) (P := fun q qs => (∀ (pins : List (Addr × Obj)) (s : Shared), Inv X pins σ H2 s → ∀ q ∈ qs, CellsAt q.cl q.fr q.ws s.heap H2) ∧
      ∀ (A : Around) (outer : List Env) (s : Shared) (H I : Hp) (b : Nat) (v : V) (us : List Value) (vs : List V) (ds : List D) (Q : VK) (E : XK), Room kc A → Env0 X.prog X.w X.K X.mg X.base A outer s H → (∀ q ∈ qs, CellsAt q.cl q.fr q.ws s.heap H) → κ.p.Cells s.heap H → Vals vs us → SR (Sx.of X κ) I H b → Same I1 I → Rp (Sx.of X κ) I (.fn q.1) v → Rps (Sx.of X κ) I ds vs → D.nofns ds = true →
        (q.2 ρ ds).run b (fun d b' => d.nofn = true → KD (Sx.of X κ) I H Q d b') (fun x b' => D.nofns x.vs = true → KX (Sx.of X κ) I H E x b') → ∃ f, v = .ref f ∧ codeAny (model X.prog X.w) A (.call (.ref f) ⟨us, []⟩) (CR (L2.CX X.prog X.w) outer X.prog X.w H s Q E) s) fun q hq => (ho q hq).run I1 H2 ρ σ er1
    have mL : ∀ q ∈ own, ∃ z ∈ L, z.1 = q := fun q hq => by
      rw [← eL] at hq
      obtain ⟨z, hz, e⟩ := List.mem_map.mp hq
      exact ⟨z, hz, e⟩
    have mO : ∀ z ∈ L, z.1 ∈ own := fun z hz => by rw [← eL]; exact List.mem_map.mpr ⟨z, hz, rfl⟩
    let p' : Pt := { κ.p with mir := mixM own ρ κ.p.mir, i0 := I1, cs := L.flatMap (·.2) ++ κ.p.cs }
    let S' : Sx := ⟨X.K, X.mg, p', X.w⟩
    have inL : ∀ {h : Heap} {H' : Hp}, p'.Cells h H' → (∀ z ∈ L, ∀ q ∈ z.2, CellsAt q.cl q.fr q.ws h H') ∧ κ.p.Cells h H' := fun {h H'} hp => ⟨fun z hz q hq => hp q (List.mem_append_left _ (List.mem_flatMap.mpr ⟨z, hz, hq⟩)), fun q hq => hp q (List.mem_append_right _ hq)⟩
    have back : ∀ {I' H' : Hp} {b' : Nat}, SR S' I' H' b' → SR (Sx.of X κ) I' H' b' := fun {I' H' b'} z => sr_to (S := S') (S' := Sx.of X κ) rfl rfl (fun a o q => z.ci a o (s1'.ci a o q)) z
    have kdTo : ∀ {I' H' : Hp} {b' : Nat} {d : D} {Q' : VK}, Same I1 I' → KD S' I' H' Q' d b' → KD (Sx.of X κ) I' H' Q' d b' := fun {I' H' b' d Q'} sm z v I2 H2 y t r => z v I2 H2 (stp_to (S := Sx.of X κ) (S' := S') rfl y) (sr_to (S := Sx.of X κ) (S' := S') rfl rfl (fun a o q => y.ii a o (sm a o q)) t) (Rp.cg (S := Sx.of X κ) (S' := S') rfl rfl rfl rfl rfl r)
    have kxTo : ∀ {I' H' : Hp} {b' : Nat} {x : Ex} {E' : XK}, Same I1 I' → KX S' I' H' E' x b' → KX (Sx.of X κ) I' H' E' x b' := fun {I' H' b' x E'} sm z cls d I2 H2 y t r => z cls d I2 H2 (stp_to (S := Sx.of X κ) (S' := S') rfl y) (sr_to (S := Sx.of X κ) (S' := S') rfl rfl (fun a o q => y.ii a o (sm a o q)) t) (xr_to (g := fun _ => false) (S := Sx.of X κ) (S' := S') rfl rfl rfl rfl (fun _ _ => rfl) D.nofws_none r)
    have V' : CloV X.prog X.w X.K X.mg X.base p' kc := by
      refine ⟨fun i _ A outer s3 H3 I3 b3 v us3 vs3 ds3 Q3 E3 hr3 e3 hp3 ru3 sr3 rv3 rds3 hnf hm3 => ?_, fun i _ q φ e => ?_, fun i _ g e => ?_⟩
      · have sm : Same I1 I3 := sr3.ci
        have rv3' : Rp (Sx.of X κ) I3 (.fn i) v := Rp.cg (S := S') (S' := Sx.of X κ) rfl rfl rfl rfl rfl rv3
        have rds3' : Rps (Sx.of X κ) I3 ds3 vs3 := Rps.cg (S := S') (S' := Sx.of X κ) rfl rfl rfl rfl rfl rds3
        cases hlk : own.lookup i with
        | some m =>
          obtain ⟨z, hz, ez⟩ := mL _ (lookup_mem hlk)
          obtain ⟨_, hz2⟩ := hL z hz
          rw [ez] at hz2
          have hm3' : (m ρ ds3).run b3 (fun d b' => d.nofn = true → KD S' I3 H3 Q3 d b') (fun x b' => D.nofns x.vs = true → KX S' I3 H3 E3 x b') := by
            have : p'.mir i = m ρ := by show mixM own ρ κ.p.mir i = _; unfold mixM; rw [hlk]
            rw [this] at hm3; exact hm3
          exact hz2 A outer s3 H3 I3 b3 v us3 vs3 ds3 Q3 E3 hr3 e3 ((inL hp3).1 z hz) (inL hp3).2 ru3 (back sr3) sm rv3' rds3' hnf ((m ρ ds3).mono hm3' (fun d b' q n => kdTo sm (q n)) fun x b' q n => kxTo sm (q n))
        | none =>
          have hm3' : (κ.p.mir i ds3).run b3 (fun d b' => d.nofn = true → KD S' I3 H3 Q3 d b') (fun x b' => D.nofns x.vs = true → KX S' I3 H3 E3 x b') := by
            have : p'.mir i = κ.p.mir i := by show mixM own ρ κ.p.mir i = _; unfold mixM; rw [hlk]
            rw [this] at hm3; exact hm3
          exact hV.run i (by unfold isIn; rw [hlk]; rfl) A outer s3 H3 I3 b3 v us3 vs3 ds3 Q3 E3 hr3 e3 (inL hp3).2 ru3 (back sr3) rv3' rds3' hnf ((κ.p.mir i ds3).mono hm3' (fun d b' q n => kdTo sm (q n)) fun x b' q n => kxTo sm (q n))
      · cases hlk : own.lookup i with
        | some m => exact (ho _ (lookup_mem hlk)).fn q φ e
        | none => exact hV.fn i (by unfold isIn; rw [hlk]; rfl) q φ e
      · cases hlk : own.lookup i with
        | some m => exact (ho _ (lookup_mem hlk)).st g e
        | none => exact hV.st i (by unfold isIn; rw [hlk]; rfl) g e
    obtain ⟨f', fd, ps, g1, g2, g3, g4, g5⟩ := (c p' rfl V').ex
    cases h1.symm.trans g1
    have hc := g5 X.A X.stack s2 H2 ⟨us, []⟩ us vs Q (fun cls d H' => W cls d σ H') (hr.mono hj) J2.env0 (by
      have z := g3 s2 us J2.kIn (by rw [List.append_nil, ← ru.length, hl, g4])
      rwa [List.append_nil] at z) ru (fun q hq => by
      rcases List.mem_append.mp hq with hq | hq
      · obtain ⟨z, hz, hq⟩ := List.mem_flatMap.mp hq
        exact (hL z hz).1 pins s2 J2 q hq
      · exact hh pins σ H2 s2 J2 q hq) hl ⟨I1, b1, ds, sr_to (S := Sx.of X κ) (S' := S') rfl rfl (fun _ _ z => z) s1', Rps.cg (S := Sx.of X κ) (S' := S') rfl rfl rfl rfl rfl r1, WP.mono _ hm.2 (fun d b' z v I' H' y t r => KD.mono x1 z v I' H' (stp_to (S := S') (S' := Sx.of X κ) rfl y) (back t) (Rp.cg (S := S') (S' := Sx.of X κ) rfl rfl rfl rfl rfl r)) fun x b' z cls d I' H' y t r => z cls d I' H' (stp_to (S := S') (S' := Sx.of X κ) rfl y) (back t) (xr_to (g := fun _ => false) (S := S') (S' := Sx.of X κ) rfl rfl rfl rfl (fun _ _ => rfl) D.nofws_none r)⟩
    refine wpAny_call (codeAny_mono hc fun r s' hq => ?_)
    cases r with
    | error e => exact passAt tk σ pins H2 s2 e s' J2 hq
    | ok fl =>
      cases fl with
      | ret u => exact J2.after hq
      | next => exact False.elim hq
      | brk => exact False.elim hq
      | cont => exact False.elim hq
  exact PySem.W.callWith_K (h₀ := X.base) J.ok.mod.kin h2 (thn (ha.run pos pins s σ H _ J args) fun us s2 ⟨vs, H2, J2, r, q⟩ => ⟨J2.kIn, q us s2 J2 r⟩) he hpl
end
/-! ### the def that makes them -/
/-- its worth: nothing of its own goes in or out -/
def bodyM (g : Nat → Bool) (n : Nat) (t : SW) : Mir := fun ds => WP.need (D.nofws g ds = true) (WP.nofnx (bodyD n t ds))
section
variable {P : Program} {w : World} {K : PySem.W.Frag} {mg : Str → Option Value} {base : Heap} {p : Pt} {x : Str} {st : Stmt} {N ps : List Str} {k n kc : Nat} {t : SW} {c : Addr}
/-- a def that gets none -/
theorem cal_byM (d : DefOkC K mg x st ps c) (S : FnScope N ps (defScope st)) (hn : ps.length = n) (lams : Cx → Nat → FV)
    (body : ∀ (f : Addr) (κ : Cp) (A : Around) (outer : List Env) (s : Shared) (H : Hp) (E : XK), κ.p.T = p.T → κ.p.lam = lams (cxOf (L2.CX P w) P w K mg base N x (defScope st) f (.ref c) A outer s H E) → κ.p.mir = (fun _ _ => WP.bad) → Cx.Hold (cxOf (L2.CX P w) P w K mg base N x (defScope st) f (.ref c) A outer s H E) κ.p →
      Room k (A.deeper (envOfC x (defScope st) s.heap.objs.size f (.ref c))) → DSs (cxOf (L2.CX P w) P w K mg base N x (defScope st) f (.ref c) A outer s H E) κ E (defBody st) t) : Cal P w K mg base p (k + 1) x n (bodyM (fun _ => true) N.length t) := by
  obtain ⟨f, oc, kV, doc, pm, ct, an, od, osl, hm, lk, hcd, kf, hb⟩ := d
  refine ⟨f, _, ps, hm, kf, hb, hn, fn_of lk hcd S (fun vs H Q E h => h.1.trans hn.symm) fun A outer s H vs Q E hr h => ?_⟩
  obtain ⟨hl, I, b, ds, sr, r, hf, h⟩ := h
  let p' : Pt := { p with lam := lams (cxOf (L2.CX P w) P w K mg base N x (defScope st) f (.ref c) A outer s H E), mir := fun _ _ => WP.bad, cs := [] }
  let S0 : Sx := ⟨K, mg, p, w⟩
  let S' : Sx := ⟨K, mg, p', w⟩
  have r' : Rps S' I ds vs := Rps.to (S := S0) (S' := S') (f := fun _ => true) rfl rfl rfl rfl (fun _ z => by cases z) hf r
  have sr' : SR S' I H b := sr_to (S := S0) (S' := S') rfl rfl sr.ci sr
  have back : ∀ {I' H' : Hp} {b' : Nat}, SR S' I' H' b' → SR S0 I' H' b' := fun {I' H' b'} z => sr_to (S := S') (S' := S0) rfl rfl z.ci z
  refine ⟨_, body f ⟨p', I, H, 0, 0⟩ A outer s H E rfl rfl rfl (hold_of rfl fun q hq => nomatch hq) hr, I, startD N.length ds, b, ⟨sr', r'.start, .refl⟩, ?_⟩
  refine (t (startD N.length ds)).mono h (fun fl b' h' => ?_) fun x b' z cls d I' H' s' y' r' => z.2 cls d I' H' (stp_to (S := S') (S' := S0) rfl y') (back s') (xr_to (g := fun _ => true) (S := S') (S' := S0) rfl rfl rfl rfl (fun _ z => by cases z) z.1 r')
  cases fl with
  | nx ρ => exact fun σ I' H' w' _ => h'.2 .non I' H' (stp_to (S := S') (S' := S0) rfl w'.st) (back w'.sr) (by simp [Rp])
  | rt d => exact fun v I' H' s' x' r' => h'.2 v I' H' (stp_to (S := S') (S' := S0) rfl x') (back s') (Rp.to (S := S') (S' := S0) (f := fun _ => true) rfl rfl rfl rfl (fun _ z => by cases z) h'.1 r')
  | bk ρ => exact h'.elim
  | ct ρ => exact h'.elim
end
end L2.NW
end
section
set_option Elab.async false
set_option autoImplicit false
set_option linter.all false
set_option maxRecDepth 100000
set_option maxHeartbeats 4000000
/-! NyE: function values called within a comprehension. -/
namespace L2.NW
open PySem PySem.Spec PyProof.Rows LamX NdefX
section
variable {X : Cx}
/-- a comprehension, walked with what is known where the block starts -/
theorem lc_coreH {pins : List (Addr × Obj)} {s : Shared} {σ : St} {H : Hp} {Q : VK} {elt tg iter : Expr} {ifs : List Expr} {scope : Scope} {own : List (Str × Nat)} {pos pos' : Pos} {wi : TI} {g : TG} {tt : TT} {te : TE} {use : Option (Value → Sem Unit)} {Qf : Value → Shared → Prop}
    (hc : X.calm = true) (hN : X.N.Nodup) (I : Inv X pins σ H s) (hi : PI X tg iter wi) (ok : BlkOk X.N X.env.scope scope own) (hg : ∀ (s : Shared) (H : Hp) (C : Addr) (cl : List (Str × Addr)) (fp : List Addr), PG (X.blk s H scope (compEnvC scope cl C X.env) fp) tg g)
    (ht : ∀ (s : Shared) (H : Hp) (C : Addr) (cl : List (Str × Addr)) (fp : List Addr), Inv X pins σ H s → (∀ b ∈ fp, ∃ o, s.heap.get? b = some o ∧ ∀ v, o.data ≠ .cell v) → PTs (X.blk s H scope (compEnvC scope cl C X.env) fp) ifs tt)
    (he : ∀ (s : Shared) (H : Hp) (C : Addr) (cl : List (Str × Addr)) (fp : List Addr), Inv X pins σ H s → (∀ b ∈ fp, ∃ o, s.heap.get? b = some o ∧ ∀ v, o.data ≠ .cell v) → PE (X.blk s H scope (compEnvC scope cl C X.env) fp) elt te) (hs : ∀ x, foldedSetIterable iter X.env x = pure x) (h : tLc wi g tt te (own.map (·.2)) σ H Q)
    (hRR : ∀ D C s' m H', Inv X pins σ H' s' → Q (.ref D) H' → s'.heap.Ns C m → FpOk X pins H' C → compPost (model X.prog X.w) X.A X.xe use Qf (.ref D) C (.ok .next) s') :
    wpAny (model X.prog X.w) X.A (comprehension (.ListComp elt [⟨tg, iter, ifs, 0⟩] scope pos) scope X.env pos' (newList []) false (eval iter X.env) use) Qf X.xe s := by
  have hcap : ∀ y ∈ scope.names, y.2 = .free → ∃ c, X.env.cells.lookup y.1 = some c := fun y hy e => by
    rcases ok.free y hy e with k | k
    · exact I.ok.has _ (.inl k)
    · exact I.ok.has _ (.inr k)
  refine wpAny_comprehension_free (use := use) rfl hs (closure_ok hcap) ok.kind (fun y hy e => by rw [ok.uniq y hy, e])
    (thn (hi.run pins s σ H _ I h) fun xv s1 hx => thn hx fun itv u2 h2 => ?_)
  obtain ⟨it, fp, tn, J, G2, e, J2, T, tu2, k2, q⟩ := h2
  subst e
  refine wpAny_newObj_type (newEnv_comp ?_) (by show 0 ≤ sizeLine; decide)
  generalize eD : u2.heap.objs.size = D
  have nD : G2 D = none := J2.hok.fresh (Nat.le_of_eq eD)
  obtain ⟨W, ⟨n0, v0⟩, turns⟩ := q D nD
  generalize hs3 : ({ u2 with heap := u2.heap.push { cls := .type "list", data := .seq ([] : List Value).toArray } } : Shared) = u3
  have J3 : Inv X pins σ (upd G2 D (.lst [])) u3 := by
    rw [← hs3]
    refine J2.laid (t' := u2.toks) (fun b o e => Heap.get?_push_of_some _ e) (Nat.le_of_eq eD) ⟨Nat.zero_le _, [], 0, .nil, ?_⟩
    rw [← eD]
    exact Heap.get?_push_size _ rfl
  have e3 : u3.heap = u2.heap.push { cls := .type "list", data := .seq ([] : List Value).toArray } := by rw [← hs3]
  have old : ∀ b ∈ fp, b < u2.heap.objs.size := fun b hb => by
    obtain ⟨o, e, _⟩ := T.obj _ _ tu2 b hb
    exact Heap.lt_size e
  have k3 : ∀ b ∈ fp, FpOk X pins (upd G2 D (.lst [])) b ∧ b < u3.heap.objs.size := fun b hb => by
    have hlt := old b hb
    refine ⟨⟨?_, (k2 b hb).2⟩, by rw [e3, Heap.size_push]; exact Nat.lt_succ_of_lt hlt⟩
    rw [upd_ne (by rw [← eD]; exact Nat.ne_of_lt hlt)]
    exact (k2 b hb).1
  have tu3 : tn 0 u3.heap := T.keep _ _ _ tu2 fun b _ o e => by rw [e3]; exact Heap.get?_push_of_some _ e
  have J4 := block_start J3 ok hN k3
  have rg := hg u3 (upd G2 D (.lst [])) u3.heap.objs.size (cellsFrom (u3.heap.objs.size + 1) scope.names (cloFrom X.env.cells scope.names [])) fp
  have rt := ht u3 (upd G2 D (.lst [])) u3.heap.objs.size (cellsFrom (u3.heap.objs.size + 1) scope.names (cloFrom X.env.cells scope.names [])) fp J3 (T.obj _ _ tu3)
  have re := he u3 (upd G2 D (.lst [])) u3.heap.objs.size (cellsFrom (u3.heap.objs.size + 1) scope.names (cloFrom X.env.cells scope.names [])) fp J3 (T.obj _ _ tu3)
  show codeAny _ _ (.compStart (.ListComp elt [⟨tg, iter, ifs, 0⟩] scope pos) 0 (.ref it) (.ref D) (compEnvC scope (cellsFrom (u3.heap.objs.size + 1) scope.names (cloFrom X.env.cells scope.names [])) u3.heap.objs.size X.env)) (compPost (model X.prog X.w) X.A X.xe use Qf (.ref D) u3.heap.objs.size) { u3 with heap := pushCells (u3.heap.push { cls := .type "dict", data := .dict #[] }) scope.names }
  have fpn : ∀ b ∈ fp, (upd G2 D (.lst [])) b = none := fun b hb => (k3 b hb).1.1
  generalize hce : compEnvC scope (cellsFrom (u3.heap.objs.size + 1) scope.names (cloFrom X.env.cells scope.names [])) u3.heap.objs.size X.env = be at J4 rg rt re ⊢
  have cL : be.locals = u3.heap.objs.size := by subst hce; rfl
  generalize hH3 : upd G2 D (.lst []) = G3 at J3 J4 rg rt re v0 fpn k3
  generalize hs4 : ({ u3 with heap := pushCells (u3.heap.push { cls := .type "dict", data := .dict #[] }) scope.names } : Shared) = u4 at J4 ⊢
  have tu4 : tn 0 u4.heap := T.keep _ _ _ tu3 fun b _ o e => by rw [← hs4]; exact pushCells_keeps _ _ _ _ (Heap.get?_push_of_some _ e)
  have still : ∀ {σ' : St} {H' : Hp} {s' : Shared}, Inv (X.blk u3 G3 scope be fp) [] σ' H' s' → (∀ b ∈ fp, H' b = none) → ∀ b ∈ fp, FpOk (X.blk u3 G3 scope be fp) [] H' b := fun {σ' H' s'} I' hn b hb =>
    ⟨hn b hb, (I'.ok.exf b hb).1, I'.ok.exfs b hb, .inl hb, fun x c e => (I'.ok.exf b hb).2 x c e, fun p hp => absurd (show p ∈ ([] : List (Addr × Obj)) ++ [] from hp) (by simp)⟩
  have body_ : codeAny (model X.prog X.w) X.A (.compLoop (.ListComp elt [⟨tg, iter, ifs, 0⟩] scope pos) 0 (.ref it) (.ref D) be) (compPost (model X.prog X.w) X.A X.xe use Qf (.ref D) u3.heap.objs.size) u4 := by
    refine compLoop_any (fun n s' => ∃ i H', Inv (X.blk u3 G3 scope be fp) [] (wipe σ (own.map (·.2))) H' s' ∧ tn i s'.heap ∧ (∀ b ∈ fp, H' b = none) ∧ W i n H') ?_ n0 ⟨0, G3, J4, tu4, fpn, v0⟩
    rintro n u5 ⟨i, G5, J5, tu5, b5, v5⟩
    rcases turns i n G5 v5 with ⟨stop, qz⟩ | ⟨goes, Nx, less, turn1⟩
    · have rd := T.done (X.blk u3 G3 scope be fp) rfl rfl rfl hc i [] u5 _ G5 (fun _ _ => False) J5 (still J5 b5) tu5 stop
      refine thnF rd fun r u6 ⟨hr, J6⟩ => ?_
      subst hr
      have J7 : Inv X pins σ G5 u6 := J3.call' (ch := fp) J6.os J6.base J6.hok J6.bare fun b hb => ⟨(k3 b hb).1.2.2.2.1, (k3 b hb).1.2.1, (k3 b hb).1.2.2.2.2.1, (k3 b hb).1.2.2.2.2.2⟩
      have cN : G5 u3.heap.objs.size = none := by
        have z : G5 be.locals = none := J6.free
        rw [cL] at z
        exact z
      obtain ⟨m, hn, _⟩ := J6.loc
      have hn : u6.heap.Ns be.locals m := hn
      rw [cL] at hn
      exact hRR D u3.heap.objs.size u6 m G5 J7 qz hn (J3.fpOk (Nat.le_refl _) cN)
    · have ri := T.item (X.blk u3 G3 scope be fp) rfl rfl rfl hc i [] u5 _ G5 (fun _ _ => False) J5 (still J5 b5) tu5 goes
      refine thnF ri fun r u6 ⟨u, hr, h6⟩ => ?_
      subst hr
      refine thnF h6 fun _ u7 ⟨x, G7, J7, c7, d7, tu7, b7⟩ => ?_
      have J7q := J7.pinned (still J7 b7) (T.obj _ _ tu7)
      refine thnF (rg.run _ u7 _ G7 x u _ J7q c7 (turn1 x G7 d7)) fun _ u8 ⟨σ8, G8, J8, ew8, z8⟩ => ?_
      refine thnF (rt.run _ u8 σ8 G8 _ J8 z8) fun b u9 ⟨G9, J9, z9⟩ => ?_
      have last : ∀ {s' : Shared} {H' : Hp}, Inv (X.blk u3 G3 scope be fp) ([] ++ pinsAt fp u7.heap) σ8 H' s' → Nx H' → ∃ m, m < n ∧ ∃ i H', Inv (X.blk u3 G3 scope be fp) [] (wipe σ (own.map (·.2))) H' s' ∧ tn i s'.heap ∧ (∀ b ∈ fp, H' b = none) ∧ W i m H' := fun {s' H'} I' nz => by
        obtain ⟨m', hm, w'⟩ := less H' nz
        have pin' : ∀ b ∈ fp, ∀ o, u7.heap.get? b = some o → s'.heap.get? b = some o ∧ H' b = none := fun b hb o e =>
          let z := I'.pin (b, o) (List.mem_append_right _ (List.mem_append_right _ (mem_pinsAt hb e)))
          ⟨z.1, z.2.1⟩
        have hl : (wipe σ (own.map (·.2))).length = σ8.length := by rw [← ew8, wipe_length]
        refine ⟨m', hm, i + 1, H', (I'.unpinned (pins := [])).weak hl (fun j v e => ?_), T.keep _ _ _ tu7 fun b hb o e => (pin' b hb o e).1, fun b hb => ?_, w'⟩
        · rw [← ew8] at e
          exact (wipe_some e).1
        · obtain ⟨o, e, _⟩ := T.obj _ _ tu7 b hb
          exact (pin' b hb o e).2
      cases b with
      | false =>
        simp only [Bool.false_eq_true, if_false] at z9 ⊢
        exact last J9 z9
      | true =>
        simp only [if_true] at z9 ⊢
        refine thnF (re.run _ u9 σ8 G9 _ J9 z9) fun z u10 ⟨yv, G10, J10, r10, acc, hD10, hz10, nz⟩ => ?_
        exact app_ok (X := X.blk u3 G3 scope be fp) J10 hD10 hz10 r10 fun u11 J11 => last J11 nz
  exact codeAny_compStart_list body_ (T.self X.A 0 _ _ _ tu4 body_)

/-- the cells stay while a block runs -/
theorem hold_blk {p : Pt} {pins0 : List (Addr × Obj)} {σ0 : L2.St} {s0 : Shared} {H0 : Hp} {sc : Scope} {be : Env} {fp : List Addr} (hh : Cx.Hold X p) (J : Inv X pins0 σ0 H0 s0) (hfp : ∀ b ∈ fp, ∃ o, s0.heap.get? b = some o ∧ ∀ v, o.data ≠ .cell v) : Cx.Hold (X.blk s0 H0 sc be fp) p := fun pins σ H s I q hq =>
  cells_stay (X := X.blk s0 H0 sc be fp) (hh _ _ _ _ J q hq) (fun y c e z => by
    obtain ⟨o, h1, h2⟩ := hfp c z
    obtain ⟨_, v, o', h3, h4⟩ := (hh _ _ _ _ J q hq).all y c e
    rw [h1] at h3; cases h3
    exact h2 v h4) I
end
section
variable {X : Cx} {κ : Cp} {W : WX} {E : XK} {elt tg iter : Expr} {ifs : List Expr} {scope : Scope} {pos spos py : Pos} {ti : AW} {t : Tgt} {tt : BW} {te : EW} {vs : List Nat}
theorem dl_lcH (own : List (Str × Nat)) (hvs : own.map (·.2) = vs) (hh : Cx.Hold X κ.p) (hc : X.calm = true) (hN : X.N.Nodup) (hi : DI X κ W tg iter ti) (ok : BlkOk X.N X.env.scope scope own)
    (hg : ∀ (s : Shared) (H : Hp) (C : Addr) (cl : List (Str × Addr)) (fp : List Addr), PG (X.blk s H scope (compEnvC scope cl C X.env) fp) tg (t.tg X.K))
    (ht : ∀ (s : Shared) (H : Hp) (C : Addr) (cl : List (Str × Addr)) (fp : List Addr), Cx.Hold (X.blk s H scope (compEnvC scope cl C X.env) fp) κ.p → DTs (X.blk s H scope (compEnvC scope cl C X.env) fp) κ W0 ifs tt)
    (he : ∀ (s : Shared) (H : Hp) (C : Addr) (cl : List (Str × Addr)) (fp : List Addr), Cx.Hold (X.blk s H scope (compEnvC scope cl C X.env) fp) κ.p → DE (X.blk s H scope (compEnvC scope cl C X.env) fp) κ W0 elt te) (hv : ∀ j ∈ t.slots, j ∈ vs) (hs : ∀ x, foldedSetIterable iter X.env x = pure x := by intro _; rfl) :
    DL X κ W (.ListComp elt [⟨tg, iter, ifs, 0⟩] scope pos) (eLc ti t tt te vs) := by
  subst hvs
  refine ⟨fun pins s σ H Q I h => ?_⟩
  rw [eval_ListComp]
  refine lc_coreH (tt := tDT (Sx.of X κ) κ W0 tt) (te := tD (Sx.of X κ) κ W0 te) hc hN I hi ok hg (fun s H C cl fp J hfp => ht s H C cl fp (hold_blk hh J hfp)) (fun s H C cl fp J hfp => he s H C cl fp (hold_blk hh J hfp)) hs (tLc_of (S := Sx.of X κ) hv σ H Q h) fun D C s' m H' I' q hn ⟨f0, f1, f2, f3, f4, f5⟩ => ⟨m, hn, fun h'' sb => ?_⟩
  exact ⟨.ref D, H', I'.turned (t' := s'.toks) (fun b o hb e => (sb.2 b hb).trans e) f0 f1 f3 f4 f5, rfl, q⟩
end
end L2.NW
end
section
set_option Elab.async false
set_option autoImplicit false
set_option linter.all false
set_option maxRecDepth 100000
set_option maxHeartbeats 2000000
/-! NxD: dicts of a name's own: what is told of them (look-ups, stores), at the library's level. -/
namespace L2.NW
open PySem PySem.Spec PyProof.Rows
/-! ### keys -/
section
variable {X : Cx} {pins : List (Addr × Obj)} {σ : L2.St} {H : Hp} {s : Shared} {J : Hp} {S : Sx}
mutual
theorem nk_is (I : Inv X pins σ H s) (sm : Same J H) (hK : S.K = X.K) : ∀ (d : D) {v : V} {u : Value} {k : NestedKey}, Rp S J d v → d.nk = some k → RelV v u → NestedIs s.heap k u
  | .non, v, u, k, r, e, q => by
    simp only [Rp] at r; subst r
    simp only [D.nk, Option.some.injEq] at e; subst e
    rw [show u = Value.none from q]; exact .none
  | .int i, v, u, k, r, e, q => by
    simp only [Rp] at r; subst r
    simp only [D.nk, Option.some.injEq] at e; subst e
    obtain ⟨t, rfl⟩ := q; exact .int i t
  | .str x, v, u, k, r, e, q => by
    simp only [Rp] at r; subst r
    simp only [D.nk, Option.some.injEq] at e; subst e
    obtain ⟨t, rfl⟩ := q; exact .text x t
  | .tup l, v, u, k, r, e, q => by
    simp only [Rp] at r
    obtain ⟨a, vs, rfl, h1, h2⟩ := r
    simp only [D.nk, Option.map_eq_some_iff] at e
    obtain ⟨ks, e, rfl⟩ := e
    rw [hK] at h1
    obtain ⟨its, rv, ⟨o, g1, g2, n, g3⟩, _⟩ := I.tuple (SqT_same sm h1)
    rw [show u = Value.ref a from q]
    exact .tup g1 g2 g3 (by simpa using nks_is I sm hK l h2 e rv)
  | .bl _, _, _, _, _, e, _ => by simp [D.nk] at e
  | .lst _, _, _, _, _, e, _ => by simp [D.nk] at e
  | .ins _ _ _, _, _, _, _, e, _ => by simp [D.nk] at e
  | .pen, _, _, _, _, e, _ => by simp [D.nk] at e
  | .raw _, _, _, _, _, e, _ => by simp [D.nk] at e
  | .dic _, _, _, _, _, e, _ => by simp [D.nk] at e
  | .fn _, _, _, _, _, e, _ => by simp [D.nk] at e
  | .exc _ _ _, _, _, _, _, e, _ => by simp [D.nk] at e
  | .dct _ _, _, _, _, _, e, _ => by simp [D.nk] at e
theorem nks_is (I : Inv X pins σ H s) (sm : Same J H) (hK : S.K = X.K) : ∀ (l : List D) {vs : List V} {us : List Value} {ks : List NestedKey}, Rps S J l vs → D.nks l = some ks → Vals vs us → NestedAll s.heap ks us
  | [], vs, us, ks, r, e, q => by
    simp only [Rps] at r; subst r
    simp only [D.nks, Option.some.injEq] at e; subst e
    cases q; exact .nil
  | d :: l, vs, us, ks, r, e, q => by
    simp only [Rps] at r
    obtain ⟨v, ws, rfl, r1, r2⟩ := r
    simp only [D.nks] at e
    split at e
    · rename_i k ks' e1 e2
      simp only [Option.some.injEq] at e; subst e
      cases q with
      | cons q1 q2 => exact .cons (nk_is I sm hK d r1 e1 q1) (nks_is I sm hK l r2 e2 q2)
    · cases e
end
end
/-- what a dict holds at a key -/
def lkD (kvs : List (D × D)) (d : D) : Option D := (kvs.find? fun p => decide (p.1.nk = d.nk)).map (·.2)
/-- .. behind a store -/
def putD (kvs : List (D × D)) (d v : D) : List (D × D) := if (lkD kvs d).isSome then kvs.map (fun p => if p.1.nk = d.nk then (p.1, v) else p) else kvs ++ [(d, v)]
/-! ### raw entries and the slot's pairs -/
section
variable {S : Sx} {I : Hp}
end
/-! ### the dict as the library tells it -/
section
variable {X : Cx} {pins : List (Addr × Obj)} {σ : L2.St} {H : Hp} {s : Shared} {J : Hp} {S : Sx} {a : Addr} {l : List (D × D)} {xs : List (NestedKey × Addr × V)}
end
/-! ### as operations -/
section
variable {X : Cx}
end
end L2.NW
end
section
set_option Elab.async false
set_option autoImplicit false
set_option linter.all false
set_option maxRecDepth 100000
set_option maxHeartbeats 2000000
/-! NxF: own lists and dicts, read and written where they stand. -/
namespace L2.NW
open PySem PySem.Spec PyProof.Rows
theorem SlR.own {S : Sx} {κ : Cp} {I H : Hp} {s : Sl} {o : Option V} (h : SlR S κ I H s o) (ho : s.isOwn = true) : ∃ a, o = some (.ref a) ∧ ¬ Nt κ.h0 a ∧ I a = none ∧ a ≠ S.p.a ∧ OwnAt S I H a s := by
  cases s with
  | no => cases ho
  | val d => cases ho
  | own l => exact h
  | obj c ns l => obtain ⟨a, h1, h2, h3, h4, h5, _⟩ := h; exact ⟨a, h1, h2, h3, h4, h5⟩
  | od l => exact h
  | ok l => exact h
  | oa c l => exact h
/-- an operation on a thing of our own and a value -/
def OpO (S : Sx) (r : V → V → Hp → VK → Prop) (f : Sl → D → WP D) : Prop := (∀ s d, s.isOwn = false → f s d = WP.bad) ∧ ∀ I H b s a d v Q E, SR S I H b → OwnAt S I H a s → Rp S I d v → (f s d).run b (KD S I H Q) E → r (.ref a) v H Q
def eOwn (i : Nat) (f : Sl → D → WP D) (ta : EW) : EW := fun ρ => do
  let d ← ta ρ
  match ρ[i]? with
  | some s => f s d
  | none => WP.bad
def bOwn (i : Nat) (f : Sl → D → WP D) (ta : EW) : BW := fun ρ => eOwn i f ta ρ >>= tst
def ownAt (ρ : Env') (i : Nat) : Bool := match ρ[i]? with
  | some s => s.isOwn
  | none => false
def eOwnL (i : Nat) (f : Sl → D → WP D) (ta : EW) : EW := fun ρ => WP.need (ownAt ρ i = true) (eOwn i f ta ρ)
section
variable {S : Sx} {κ : Cp} {W : WX} {r : V → V → Hp → VK → Prop} {f : Sl → D → WP D} {ta : EW} {i : Nat}
theorem own_run (o : OpO S r f) {I H : Hp} {b : Nat} {ρ : Env'} {σ : St} {d : D} {v : V} {Q : VK} {E : Ex → Nat → Prop} (sr : SR S I H b) (er : ER S κ I H ρ σ) (rv : Rp S I d v)
    (h : (match ρ[i]? with | some s => f s d | none => WP.bad).run b (KD S I H Q) E) : ∃ a, σ[i]? = some (some (.ref a)) ∧ r (.ref a) v H Q := by
  cases e : ρ[i]? with
  | none => rw [e] at h; exact h.elim
  | some s =>
    rw [e] at h
    cases ho : s.isOwn with
    | false => simp only [o.1 s d ho] at h; exact h.elim
    | true =>
      have il : i < σ.length := by rw [← er.len]; exact (List.getElem?_eq_some_iff.mp e).1
      have hs : σ[i]? = some σ[i] := List.getElem?_eq_getElem il
      obtain ⟨a, ha, _, _, _, w⟩ := (er.at_ i s _ e hs).own ho
      exact ⟨a, by rw [hs, ha], o.2 I H b s a d v Q E sr w rv h⟩
theorem tOwnR (o : OpO S r f) (σ : St) (H : Hp) (Q : VK) (h : tD S κ W (eOwn i f ta) σ H Q) : tOp (fun x y => r y x) (tD S κ W ta) (tVar i) σ H Q := by
  obtain ⟨I, ρ, b, sr, er, h⟩ := h
  refine tD_bind sr er h fun d b1 v I1 H1 x1 s1 er1 r1 h1 => ?_
  obtain ⟨a, h2, h3⟩ := own_run (Q := Q) (E := KX S I1 H1 fun cls d H' => W cls d σ H') o s1 er1 r1 (by
    cases e : ρ[i]? with
    | none => rw [e] at h1; exact h1.elim
    | some s => rw [e] at h1; exact (f s d).mono h1 (fun _ _ z => KD.mono x1 z) fun _ _ z => z)
  exact ⟨.ref a, h2, h3⟩
theorem own_val {I H : Hp} {ρ : Env'} {σ : St} (er : ER S κ I H ρ σ) (h : ownAt ρ i = true) : ∃ a, σ[i]? = some (some (.ref a)) := by
  unfold ownAt at h
  cases e : ρ[i]? with
  | none => rw [e] at h; cases h
  | some s =>
    rw [e] at h
    have il : i < σ.length := by rw [← er.len]; exact (List.getElem?_eq_some_iff.mp e).1
    have hs : σ[i]? = some σ[i] := List.getElem?_eq_getElem il
    obtain ⟨a, ha, _⟩ := (er.at_ i s _ e hs).own h
    exact ⟨a, by rw [hs, ha]⟩
theorem tOwnL (o : OpO S r f) (σ : St) (H : Hp) (Q : VK) (h : tD S κ W (eOwnL i f ta) σ H Q) : tOp r (tVar i) (tD S κ W ta) σ H Q := by
  obtain ⟨I, ρ, b, sr, er, ⟨hn, h⟩⟩ := h
  obtain ⟨a, ha⟩ := own_val er hn
  refine ⟨_, ha, ?_⟩
  refine tD_bind sr er h fun d b1 v I1 H1 x1 s1 er1 r1 h1 => ?_
  obtain ⟨a', h2, h3⟩ := own_run (Q := Q) (E := KX S I1 H1 fun cls d H' => W cls d σ H') o s1 er1 r1 (by
    cases e : ρ[i]? with
    | none => rw [e] at h1; exact h1.elim
    | some s => rw [e] at h1; exact (f s d).mono h1 (fun _ _ z => KD.mono x1 z) fun _ _ z => z)
  rw [ha] at h2
  cases h2
  exact h3
end
/-! ### as rules -/
section
variable {X : Cx} {κ : Cp} {W : WX} {a b e : Expr} {x : Str} {pos pn : Pos} {ta tb : EW} {i : Nat} {f : Sl → D → WP D}
theorem dt_cmpO {op : CmpOp} {r : R2} (hr : OpR X (compareOp op) r) (o : OpO (Sx.of X κ) (fun x y => r y x) f) (ha : DE X κ W a ta) (hv : PE X (.Name x pn) (tVar i)) (hm : behindInMarks op (.Name x pn) = false) : DT X κ W (.Compare a [op] [.Name x pn] pos) (fun ρ => eOwn i f ta ρ >>= tst) :=
  PT.imp (pt_cmpR hr ha hv hm) fun σ H Q ⟨I, ρ, b, sr, er, h⟩ => by
    refine tOwnR o σ H _ (tD_bind sr er h fun d b1 v I1 H1 x1 s1 er1 r1 h1 => ?_)
    cases d with
    | bl k =>
      simp only [Rp] at r1
      exact ⟨k, r1, h1 I1 H1 x1 s1⟩
    | _ => exact h1.elim
theorem de_ixO {r : R2} (hr : IxR X r) (o : OpO (Sx.of X κ) r f) (hv : PE X (.Name x pn) (tVar i)) (hb : DE X κ W b tb) (hs : PlainIx b := by exact fun _ _ => rfl) : DE X κ W (.Subscript (.Name x pn) b pos) (eOwnL i f tb) :=
  PE.imp (pe_ix hr hv hb hs) (tOwnL o)
end
/-! ### a list of our own, looked at -/
def ixO : Sl → D → WP D
  | .own l, .int j => match atI l j with
    | some d => pure d
    | none => WP.bad
  | _, _ => WP.bad
theorem oo_ix {S : Sx} : OpO S (rIxL S.K) ixO := by
  refine ⟨fun s d h => (by cases s <;> first | rfl | cases h), fun I H b s a d v Q E sr w rv k => ?_⟩
  cases s <;> cases d <;> first | exact k.elim | skip
  rename_i l j
  simp only [Rp] at rv
  obtain ⟨vs, h1, h2⟩ := w
  unfold ixO at k
  simp only at k
  cases e : atI l j with
  | none => rw [e] at k; exact k.elim
  | some d =>
    rw [e] at k
    obtain ⟨u, g1, g2⟩ := h2.atI e
    exact ⟨a, vs, j, u, rfl, rv, SqL.of h1, g1, k _ I H .refl sr g2⟩
/-- x[j], x a list of our own -/
theorem de_ixOwn {X : Cx} {κ : Cp} {W : WX} {b : Expr} {x : Str} {pos pn : Pos} {tb : EW} {i : Nat} (hv : PE X (.Name x pn) (tVar i)) (hb : DE X κ W b tb) (hs : PlainIx b := by exact fun _ _ => rfl) : DE X κ W (.Subscript (.Name x pn) b pos) (eOwnL i ixO tb) := de_ixO ix_list oo_ix hv hb hs
/-- len(x), x of our own -/
def eLenO (i : Nat) : EW := fun ρ => match ρ[i]? with
  | some (.own l) => pure (.int ((l.length : Nat) : Int))
  | _ => WP.bad
theorem de_lenO {X : Cx} {κ : Cp} {W : WX} {x : Str} {pos pn pf : Pos} {i : Nat} (hg : Gl X "len") (hm : X.mg "len" = none) (hv : PE X (.Name x pn) (tVar i)) (he : starEach (Expr.Name x pn :: []) X.env = (false, eval (.Name x pn) X.env) :: starEach [] X.env := by rfl) (hpl : (backTo pos (starEach [] X.env)).any (·.1) = false := by rfl) :
    DE X κ W (.Call (.Name "len" pf) [.Name x pn] [] pos) (eLenO i) :=
  PE.imp (pe_callB call_len_seq hg hm (by decide +kernel) (pa_cons hv pa_nil he) (by decide) (by decide) he hpl) fun σ H Q ⟨I, ρ, b, sr, er, h⟩ => by
    unfold eLenO at h
    split at h
    · rename_i l e
      have il : i < σ.length := by rw [← er.len]; exact (List.getElem?_eq_some_iff.mp e).1
      have hs : σ[i]? = some σ[i] := List.getElem?_eq_getElem il
      obtain ⟨a, ha, _, _, _, vs, h1, h2⟩ := er.at_ i _ _ e hs
      rw [ha] at hs
      exact ⟨.ref a, hs, a, vs, rfl, .inl (SqL.of h1), by rw [← h2.len]; exact h _ I H .refl sr (by simp [Rp])⟩
    · exact h.elim
/-! ### dicts: k in d, d[k], d.get(k) -/
section
variable {X : Cx} {κ : Cp} {W : WX} {a b e : Expr} {x : Str} {pos pn : Pos} {ta tb : EW} {i : Nat}
end
section
variable {X : Cx} {pins : List (Addr × Obj)} {σ : L2.St} {H : Hp} {s : Shared} {a : Addr} {v : V} {u : Value} {A : Around} {E : Value → Shared → Prop}
end
end L2.NW
end
section
set_option Elab.async false
set_option autoImplicit false
set_option linter.all false
set_option maxRecDepth 100000
set_option maxHeartbeats 2000000
/-! NxG: dicts of our own: d[k], d.get(k), d[k] = v, d.update(e), displays. -/
namespace L2.NW
open PySem PySem.Spec PyProof.Rows
section
variable {X : Cx} {o i e : Expr} {pos pos' : Pos} {td ty tv : TE}
end
end L2.NW
end
section
set_option Elab.async false
set_option autoImplicit false
set_option linter.all false
set_option maxRecDepth 100000
set_option maxHeartbeats 2000000
/-! NxH: dicts of our own as data: the judgements. -/
namespace L2.NW
open PySem PySem.Spec PyProof.Rows
section
variable {S : Sx} {I : Hp}
end
/-! ### d.update(e) -/
section
variable {X : Cx} {o e : Expr} {td te : TE} {apos cpos : Pos}
end
/-! ### the judgements -/
section
variable {X : Cx} {κ : Cp} {W : WX} {E : XK} {a b e value : Expr} {x y : Str} {pos pn pos' cpos apos : Pos} {ta tb tv : EW} {i j : Nat}
end
end L2.NW
end
section
set_option Elab.async false
set_option autoImplicit false
set_option linter.all false
set_option maxRecDepth 100000
set_option maxHeartbeats 2000000
/-! NxJ: fresh lists and dicts into slots, one or two at once; while. -/
namespace L2.NW
open PySem PySem.Spec PyProof.Rows
/-- what a slot's thing lies at, fresh since H -/
def SlF (S : Sx) (H I' H' : Hp) : Sl → V → Prop
  | .val d, v => Rp S I' d v
  | s, v => s.isOwn = true ∧ (∀ c ns l, s ≠ .obj c ns l) ∧ ∃ a, v = .ref a ∧ ¬ Nt H a ∧ I' a = none ∧ OwnAt S I' H' a s
def KS (S : Sx) (I H : Hp) (Q : VK) (s : Sl) (b : Nat) : Prop := ∀ v I' H', Stp S I H I' H' → SR S I' H' b → SlF S H I' H' s v → Q v H'
abbrev XW := Env' → WP Sl
def tX (S : Sx) (κ : Cp) (W : WX) (t : XW) : TE := fun σ H Q => ∃ I ρ b, SR S I H b ∧ ER S κ I H ρ σ ∧ (t ρ).run b (KS S I H Q) (KX S I H fun cls d H' => W cls d σ H')
def xVal (te : EW) : XW := fun ρ => do let d ← te ρ; pure (.val d)
def xOwn (ts : AW) : XW := fun ρ => do let l ← ts ρ; pure (.own l)
def DX (X : Cx) (κ : Cp) (W : WX) (e : Expr) (t : XW) : Prop := PE X e (tX (Sx.of X κ) κ W t)
section
variable {X : Cx} {κ : Cp} {W : WX} {E : XK} {e a b : Expr} {pos : Pos} {te tk tv : EW} {ts : AW} {t u : XW} {i j : Nat} {x y : Str}
/-- the three kinds, named -/
theorem dx_val (h : DE X κ W e te) : DX X κ W e (xVal te) :=
  PE.imp h fun σ H Q ⟨I, ρ, b, sr, er, h⟩ => ⟨I, ρ, b, sr, er, (te ρ).mono h (fun d b' k v I' H' x s r => k v I' H' x s r) fun _ _ z => z⟩
theorem dx_own (h : DL X κ W e ts) : DX X κ W e (xOwn ts) :=
  PE.imp h fun σ H Q ⟨I, ρ, b, sr, er, h⟩ => ⟨I, ρ, b, sr, er, (ts ρ).mono h (fun l b' k a vs I' H' x s ha hi hl r => k (.ref a) I' H' x s ⟨rfl, fun _ _ _ z => (by cases z), a, rfl, ha, hi, vs, hl, r⟩) fun _ _ z => z⟩
/-! ### stores -/
theorem slf_slr {S : Sx} {H I' H' : Hp} {s : Sl} {v : V} (h : SlF S H I' H' s v) (hn : ¬ ∃ c ns l, s = .obj c ns l) (h0 : ∀ a, ¬ Nt H a → ¬ Nt κ.h0 a) (hp : ∀ a, ¬ Nt H a → a ≠ S.p.a) : SlR S κ I' H' s (some v) := by
  cases s with
  | no => obtain ⟨z, _⟩ := h; cases z
  | val d => exact ⟨v, rfl, h⟩
  | own l => obtain ⟨_, _, a, rfl, f, n, w⟩ := h; exact ⟨a, rfl, h0 a f, n, hp a f, w⟩
  | obj c ns l => exact absurd ⟨c, ns, l, rfl⟩ hn
  | od l => obtain ⟨_, _, a, rfl, f, n, w⟩ := h; exact ⟨a, rfl, h0 a f, n, hp a f, w⟩
  | ok l => obtain ⟨_, _, a, rfl, f, n, w⟩ := h; exact ⟨a, rfl, h0 a f, n, hp a f, w⟩
  | oa c l => obtain ⟨_, _, a, rfl, f, n, w⟩ := h; exact ⟨a, rfl, h0 a f, n, hp a f, w⟩
theorem slf_obj {S : Sx} {H I' H' : Hp} {s : Sl} {v : V} (h : SlF S H I' H' s v) : ¬ ∃ c ns l, s = .obj c ns l := by
  rintro ⟨c, ns, l, rfl⟩
  exact h.2.1 c ns l rfl
/-- a slot takes a fresh thing -/
theorem ER.setF {S : Sx} {H I' H' : Hp} {s : Sl} {v : V} {ρ : Env'} {σ : St} (e : ER S κ I' H' ρ σ) (h : SlF S H I' H' s v) (h0 : ∀ a, ¬ Nt H a → ¬ Nt κ.h0 a) (hp : ∀ a, ¬ Nt H a → a ≠ S.p.a)
    (ap : ∀ (j : Nat) (t : Sl) (a : Addr), j ≠ i → ρ[j]? = some t → t.isOwn = true → σ[j]? = some (some (.ref a)) → Nt H a) : ER S κ I' H' (ρ.set i s) (σ.set i (some v)) := by
  cases hs : s.isOwn with
  | true =>
    have r := slf_slr (κ := κ) h (slf_obj h) h0 hp
    obtain ⟨a, ea, _⟩ := r.own hs
    cases ea
    refine e.setOwn r fun j t hj ht o q => ?_
    have z := ap j t a hj ht o q
    cases s with
    | no => cases hs
    | val d => cases hs
    | own l => obtain ⟨_, _, a', ea, f, _⟩ := h; cases ea; exact f z
    | obj c ns l => exact slf_obj h ⟨c, ns, l, rfl⟩
    | od l => obtain ⟨_, _, a', ea, f, _⟩ := h; cases ea; exact f z
    | ok l => obtain ⟨_, _, a', ea, f, _⟩ := h; cases ea; exact f z
    | oa c l => obtain ⟨_, _, a', ea, f, _⟩ := h; cases ea; exact f z
  | false =>
    cases s with
    | no => obtain ⟨z, _⟩ := h; cases z
    | val d => exact e.setVal h
    | own l => cases hs
    | obj c ns l => cases hs
    | od l => cases hs
    | ok l => cases hs
    | oa c l => cases hs
def sSetX (i : Nat) (t : XW) : SW := fun ρ => do let s ← t ρ; pure (.nx (ρ.set i s))
theorem ds_setX {pos' : Pos} (hN : X.N.Nodup) (hi : X.N[i]? = some x) (hx : Loc X.env.scope x) (he : DX X κ (wOf E) e t) (hs : swapsWith e (some (.Name x pos')) pos.line X.env = pure false := by rfl) (hf : X.fn x = true ∨ X.env.scope.names.lookup x = some .local := by first | exact .inl rfl | exact .inr rfl | assumption) :
    DS X κ E (.Assign [.Name x pos'] e pos) (sSetX i t) :=
  PS.imp (ps_set hN hi hx he hs hf) fun Z σ H ⟨I, ρ, b, w, h⟩ => ⟨I, ρ, b, w.sr, w.er, (t ρ).mono h (fun s b' k v I' H' x1 s1 r => by
    have w1 := w.stp x1 s1
    refine k _ I' H' ⟨s1, w1.er.setF r (fun a f => w.h0 f) (fun a f => w.sr.pne f) (fun j t a hj ht o q => ?_), w1.st⟩ x1.ii
    exact (w.er.there ht o q).1) fun _ _ z => z.kx w.st⟩
/-- x, y = e, f: both fresh -/
def sParX (i j : Nat) (t u : XW) : SW := fun ρ => do let s ← t ρ; let r ← u ρ; pure (.nx ((ρ.set i s).set j r))
theorem slf_later {S : Sx} {H I1 H1 I2 H2 : Hp} {s : Sl} {v : V} (x : Stp S I1 H1 I2 H2) (hb : ∃ b, SR S I1 H1 b) (hp : ∀ a, ¬ Nt H a → a ≠ S.p.a) (h : SlF S H I1 H1 s v) : SlF S H I2 H2 s v := by
  cases s with
  | no => obtain ⟨z, _⟩ := h; cases z
  | val d => exact h.same x.ii
  | own l => obtain ⟨o, n, a, e, f, g, w⟩ := h; exact ⟨o, n, a, e, f, x.nn a w.there g, w.stp x hb (hp a f)⟩
  | obj c ns l => exact absurd ⟨c, ns, l, rfl⟩ (slf_obj h)
  | od l => obtain ⟨o, n, a, e, f, g, w⟩ := h; exact ⟨o, n, a, e, f, x.nn a w.there g, w.stp x hb (hp a f)⟩
  | ok l => obtain ⟨o, n, a, e, f, g, w⟩ := h; exact ⟨o, n, a, e, f, x.nn a w.there g, w.stp x hb (hp a f)⟩
  | oa c l => obtain ⟨o, n, a, e, f, g, w⟩ := h; exact ⟨o, n, a, e, f, x.nn a w.there g, w.stp x hb (hp a f)⟩
theorem ds_parX {px py pt pt2 : Pos} {kt k2 : Nat} (hc : X.calm = true) (hN : X.N.Nodup) (hi : X.N[i]? = some x) (hj : X.N[j]? = some y) (hij : i ≠ j) (hx : X.env.scope.names.lookup x = some .local) (hy : X.env.scope.names.lookup y = some .local) (ha : DX X κ (wOf E) a t) (hb : DX X κ (wOf E) b u)
    (hw : swappedStores [.Tuple [.Name x px, .Name y py] kt pt] (.Tuple [a, b] k2 pt2) X.env = pure (some [x, y])) (hs : swapsWithSole [.Tuple [.Name x px, .Name y py] kt pt] (.Tuple [a, b] k2 pt2) pos.line X.env = pure false := by rfl) (e1' : starEach (a :: [b]) X.env = (false, eval a X.env) :: starEach [b] X.env := by rfl) (e2' : starEach (b :: []) X.env = (false, eval b X.env) :: starEach [] X.env := by rfl) :
    DS X κ E (.Assign [.Tuple [.Name x px, .Name y py] kt pt] (.Tuple [a, b] k2 pt2) pos) (sParX i j t u) :=
  PS.imp (ps_par hc hN hi hj hij hx hy (pa_cons ha (pa_cons hb pa_nil e2') e1') hw hs) fun Z σ H ⟨I, ρ, b, w, h⟩ => by
    refine ⟨I, ρ, b, w.sr, w.er, (t ρ).mono h (fun s b1 h1 v1 I1 H1 x1 s1 r1 => ?_) fun _ _ z => z.kx w.st⟩
    have w1 := w.stp x1 s1
    refine ⟨I1, ρ, b1, s1, w1.er, (u ρ).mono h1 (fun r b2 h2 v2 I2 H2 x2 s2 r2 => ?_) fun _ _ z => (z.kx w.st).mono x1⟩
    have w2 := w1.stp x2 s2
    refine ⟨v1, v2, rfl, ?_⟩
    have q1 : SlF (Sx.of X κ) H I2 H2 s v1 := slf_later x2 ⟨_, s1⟩ (fun a f => w.sr.pne f) r1
    have e1 : ER (Sx.of X κ) κ I2 H2 (ρ.set i s) (σ.set i (some v1)) := w2.er.setF q1 (fun a f => w.h0 f) (fun a f => w.sr.pne f) fun j t a hj ht o q => (w.er.there ht o q).1
    have e2 := e1.setF (i := j) r2 (fun a f => w1.h0 f) (fun a f => w1.sr.pne f) fun k t a hk ht o q => ?_
    · exact h2 _ I2 H2 ⟨s2, e2, w2.st⟩ (x1.ii.trans x2.ii)
    · by_cases hki : i = k
      · subst hki
        have il : i < ρ.length := by simpa using (List.getElem?_eq_some_iff.mp ht).1
        rw [List.getElem?_set_self il] at ht
        rw [List.getElem?_set_self (w.er.len ▸ il)] at q
        cases ht; cases q
        cases s with
        | no => cases o
        | val d => cases o
        | own l => obtain ⟨_, _, a', ea, f, g, w'⟩ := r1; cases ea; exact w'.there
        | obj c ns l => exact absurd ⟨c, ns, l, rfl⟩ (slf_obj r1)
        | od l => obtain ⟨_, _, a', ea, f, g, w'⟩ := r1; cases ea; exact w'.there
        | ok l => obtain ⟨_, _, a', ea, f, g, w'⟩ := r1; cases ea; exact w'.there
        | oa c l => obtain ⟨_, _, a', ea, f, g, w'⟩ := r1; cases ea; exact w'.there
      · rw [List.getElem?_set_ne hki] at ht q
        exact (w1.er.there ht o q).1
end
/-! ### while -/
def whL (tc : BW) (tb : SW) : Nat → SW
  | 0, _ => WP.bad
  | n + 1, ρ => do
    let c ← tc ρ
    if c then do
      let f ← tb ρ
      match f with
      | .nx ρ' => whL tc tb n ρ'
      | .ct ρ' => whL tc tb n ρ'
      | .bk ρ' => pure (.nx ρ')
      | .rt d => pure (.rt d)
    else pure (.nx ρ)
section
variable {X : Cx} {κ : Cp} {E : XK} {c : Expr} {body : List Stmt} {pos : Pos} {tc : BW} {tb : SW}
theorem ds_while (n : Nat) (hp : PassesOwn (model X.prog X.w) X.A X.env X.xe) (hc : DT X κ (wOf E) c tc) (hb : DSs X κ E body tb) : DS X κ E (.While c body [] pos) (whL tc tb n) :=
  PS.imp (ps_while hp hc hb) fun Z σ H ⟨I, ρ, b, w, h⟩ => by
    refine ⟨fun m σ H => ∃ I2 ρ2 b2, Same I I2 ∧ WOk (Sx.of X κ) κ I2 H b2 ρ2 σ ∧ (whL tc tb m ρ2).run b2 (KF (Sx.of X κ) κ I2 Z) (KXs (Sx.of X κ) κ E), ⟨n, I, ρ, b, fun _ _ z => z, w, h⟩, ?_⟩
    rintro m σ2 H2 ⟨I2, ρ2, b2, i2, w2, h2⟩
    cases m with
    | zero => exact h2.elim
    | succ m =>
      refine ds_ofT w2 h2 fun k b3 I3 H3 w3 x3 h3 => ?_
      cases k with
      | false => exact h3 σ2 I3 H3 w3 x3.ii
      | true =>
        refine ⟨fun σ' H' => ∃ I4 ρ4 b4, Same I I4 ∧ WOk (Sx.of X κ) κ I4 H' b4 ρ4 σ' ∧ (whL tc tb m ρ4).run b4 (KF (Sx.of X κ) κ I4 Z) (KXs (Sx.of X κ) κ E), fun σ' H' q => ⟨m, by omega, q⟩, ?_⟩
        refine ⟨I3, ρ2, b3, w3, (tb ρ2).mono h3 (fun f b5 h5 => ?_) fun _ _ z => z⟩
        have i3 := i2.trans x3.ii
        cases f with
        | nx ρ5 => exact fun σ6 I6 H6 w6 i6 => ⟨I6, ρ5, b5, i3.trans i6, w6, (whL tc tb m ρ5).mono h5 (fun _ _ z => z.later (x3.ii.trans i6)) fun _ _ z => z⟩
        | ct ρ5 => exact fun σ6 I6 H6 w6 i6 => ⟨I6, ρ5, b5, i3.trans i6, w6, (whL tc tb m ρ5).mono h5 (fun _ _ z => z.later (x3.ii.trans i6)) fun _ _ z => z⟩
        | bk ρ5 => exact fun σ6 I6 H6 w6 i6 => h5 σ6 I6 H6 w6 (x3.ii.trans i6)
        | rt d => exact h5
end
end L2.NW
end
section
set_option Elab.async false
set_option autoImplicit false
set_option linter.all false
set_option maxRecDepth 100000
set_option maxHeartbeats 4000000
/-! NxS: plain data in order: tuples of ints, nested, all of one shape. -/
namespace L2.NW
open PySem PySem.Spec PyProof.Rows
/-! ### the order -/
/-! ### keys told flat -/
/-! ### values that are such keys -/
mutual
def PIs (h : Heap) : NestedKey → Value → Prop
  | .none, v => v = .none
  | .num i, v => ∃ t, v = .int i t
  | .text x, v => ∃ t, v = .str x t
  | .tup ks, v => ∃ a o vs n, v = .ref a ∧ h.get? a = some o ∧ o.cls = .type "tuple" ∧ o.data = .seq vs n ∧ PIss h ks vs.toList
def PIss (h : Heap) : List NestedKey → List Value → Prop
  | [], vs => vs = []
  | k :: ks, vs => ∃ v ws, vs = v :: ws ∧ PIs h k v ∧ PIss h ks ws
end
mutual
theorem PIs.at {h h' : Heap} (hk : ∀ a o, h.get? a = some o → o.cls = .type "tuple" → h'.get? a = some o) : ∀ (k : NestedKey) {v : Value}, PIs h k v → PIs h' k v
  | .none, v, p => by simp only [PIs] at p ⊢; exact p
  | .num i, v, p => by simp only [PIs] at p ⊢; exact p
  | .text x, v, p => by simp only [PIs] at p ⊢; exact p
  | .tup ks, v, p => by
    simp only [PIs] at p ⊢
    obtain ⟨a, o, vs, n, rfl, h1, h2, h3, h4⟩ := p
    exact ⟨a, o, vs, n, rfl, hk a o h1 h2, h2, h3, PIss.at hk ks h4⟩
theorem PIss.at {h h' : Heap} (hk : ∀ a o, h.get? a = some o → o.cls = .type "tuple" → h'.get? a = some o) : ∀ (ks : List NestedKey) {vs : List Value}, PIss h ks vs → PIss h' ks vs
  | [], vs, p => by simp only [PIss] at p ⊢; exact p
  | k :: ks, vs, p => by
    simp only [PIss] at p ⊢
    obtain ⟨v, ws, rfl, h1, h2⟩ := p
    exact ⟨v, ws, rfl, PIs.at hk k h1, PIss.at hk ks h2⟩
end
theorem PIss.len {h : Heap} : ∀ {ks : List NestedKey} {vs : List Value}, PIss h ks vs → vs.length = ks.length
  | [], vs, p => by simp only [PIss] at p; subst p; rfl
  | k :: ks, vs, p => by
    simp only [PIss] at p
    obtain ⟨v, ws, rfl, h1, h2⟩ := p
    simp [PIss.len h2]
theorem PIss.get {h : Heap} : ∀ {ks : List NestedKey} {vs : List Value} {j : Nat} (h1 : j < ks.length) (h2 : j < vs.length), PIss h ks vs → PIs h ks[j] vs[j]
  | [], vs, j, h1, _, _ => by simp at h1
  | k :: ks, vs, j, h1, h2, p => by
    simp only [PIss] at p
    obtain ⟨v, ws, rfl, q1, q2⟩ := p
    cases j with
    | zero => exact q1
    | succ j => exact PIss.get (h := h) (ks := ks) (vs := ws) (j := j) (by simpa using h1) (by simpa using h2) q2
end L2.NW
end
section
set_option Elab.async false
set_option autoImplicit false
set_option linter.all false
set_option maxRecDepth 100000
set_option maxHeartbeats 4000000
/-! NxS2: sorted, of tuples nested, all of one shape. -/
namespace L2.NW
open PySem PySem.Spec PyProof.Rows
/-! ### as the sort compares them -/
section
variable {prog : Program} {w : World} {A : Around} {s : Shared}
end
end L2.NW
end
section
set_option Elab.async false
set_option autoImplicit false
set_option linter.all false
set_option maxRecDepth 100000
set_option maxHeartbeats 4000000
/-! NxS3: sorted, as a rule. -/
namespace L2.NW
open PySem PySem.Spec PyProof.Rows
section
variable {prog : Program} {w : World} {A : Around} {s : Shared} {tb : List (Addr × NestedKey)}
end
end L2.NW
end
section
set_option Elab.async false
set_option autoImplicit false
set_option linter.all false
set_option maxRecDepth 100000
set_option maxHeartbeats 4000000
/-! NxS4: sorted(l), sorted(d): the judgements. -/
namespace L2.NW
open PySem PySem.Spec PyProof.Rows
section
variable {X : Cx} {pins : List (Addr × Obj)} {σ : L2.St} {H : Hp} {s : Shared} {J : Hp} {S : Sx}
end
end L2.NW
end
section
set_option Elab.async false
set_option autoImplicit false
set_option linter.all false
set_option maxRecDepth 100000
set_option maxHeartbeats 4000000
/-! NxS5: sorted(l), sorted(d): the rules. -/
namespace L2.NW
open PySem PySem.Spec PyProof.Rows
theorem hu9 {k : Nat} {A : Around} (r : Room k A) : A.units + 9 < cLine := by have := r.un; omega
section
variable {X : Cx}
end
/-! ### judgements -/
section
variable {X : Cx} {κ : Cp} {W : WX} {e : Expr} {x : Str} {pos pn pf : Pos} {te : EW} {ts : AW} {i : Nat}
end
end L2.NW
end
section
set_option Elab.async false
set_option autoImplicit false
set_option linter.all false
set_option maxRecDepth 100000
set_option maxHeartbeats 2000000
/-! NzA: dicts of one's own, of any keys: what is told of them, and the operations. -/
namespace L2.NW
open PySem PySem.Spec PyProof.Rows
/-- d can be a key -/
def KeyD (d : D) : Prop := ∃ k, KeyG d k
section
variable {S : Sx} {I : Hp}
theorem krk_lk : ∀ {l : List (D × D)} {xs : List GV} {ys : List GE} {d : D} {k : NestedKey}, KRk S I l xs → GX xs ys → KeyG d k →
    match lkD l d, gAt ys k with | none, none => True | some e, some u => ∃ v, Rp S I e v ∧ RelV v u | _, _ => False
  | _, _, _, d, k, .nil, .nil, hk => trivial
  | p :: l, q :: xs, y :: ys, d, k, .cons h t, .cons g t', hk => by
    obtain ⟨h1, h2, h3⟩ := h
    obtain ⟨g1, g2, g3⟩ := g
    by_cases e : y.1 = k
    · have e1 : p.1.nk = d.nk := by rw [h1.1, hk.1, g1, e]
      have a1 : lkD (p :: l) d = some p.2 := by unfold lkD; rw [List.find?_cons_of_pos (by simpa using e1)]; rfl
      have a2 : gAt (y :: ys) k = some y.2.2 := by unfold gAt; rw [List.find?_cons_of_pos (by simpa using e)]; rfl
      rw [a1, a2]
      exact ⟨_, h3, g3⟩
    · have e1 : ¬ p.1.nk = d.nk := by
        rw [h1.1, hk.1, g1]; intro z; exact e (Option.some.inj z)
      have a1 : lkD (p :: l) d = lkD l d := by unfold lkD; rw [List.find?_cons_of_neg (by simpa using e1)]
      have a2 : gAt (y :: ys) k = gAt ys k := by unfold gAt; rw [List.find?_cons_of_neg (by simpa using e)]
      rw [a1, a2]
      exact krk_lk t t' hk
theorem krk_some {l : List (D × D)} {xs : List GV} {ys : List GE} {d : D} {k : NestedKey} (h : KRk S I l xs) (g : GX xs ys) (hk : KeyG d k) : (lkD l d).isSome = (gAt ys k).isSome := by
  have z := krk_lk h g hk
  cases e1 : lkD l d <;> cases e2 : gAt ys k <;> rw [e1, e2] at z <;> first | rfl | exact z.elim
/-- the entries behind a store -/
def putGX (xs : List GV) (k : NestedKey) (b v : V) : List GV := if (xs.find? fun x => decide (x.1 = k)).isSome then xs.map (fun x => if x.1 = k then (x.1, x.2.1, v) else x) else xs ++ [(k, b, v)]
theorem gx_find : ∀ {xs : List GV} {ys : List GE} {k : NestedKey}, GX xs ys → (xs.find? fun x => decide (x.1 = k)).isSome = (gAt ys k).isSome
  | _, _, _, .nil => rfl
  | q :: xs, y :: ys, k, .cons g t => by
    by_cases e : y.1 = k
    · have e' : q.1 = k := g.1.trans e
      have a2 : gAt (y :: ys) k = some y.2.2 := by unfold gAt; rw [List.find?_cons_of_pos (by simpa using e)]; rfl
      rw [List.find?_cons_of_pos (by simpa using e'), a2]; rfl
    · have e' : ¬ q.1 = k := fun z => e (g.1.symm.trans z)
      have a2 : gAt (y :: ys) k = gAt ys k := by unfold gAt; rw [List.find?_cons_of_neg (by simpa using e)]
      rw [List.find?_cons_of_neg (by simpa using e'), a2]
      exact gx_find t
theorem gx_map {k : NestedKey} {v : V} {u : Value} (r : RelV v u) {xs : List GV} {ys : List GE} (h : GX xs ys) : GX (xs.map (fun x => if x.1 = k then (x.1, x.2.1, v) else x)) (ys.map (gSet k u)) := by
  induction h with
  | nil => exact .nil
  | @cons p q ps qs g t ih =>
    rw [List.map_cons, List.map_cons]
    refine .cons ?_ ih
    unfold gSet
    by_cases e : q.1 = k
    · rw [if_pos (g.1.trans e), if_pos e]; exact ⟨g.1, g.2.1, r⟩
    · rw [if_neg (fun z => e (g.1.symm.trans z)), if_neg e]; exact g
theorem gx_put {xs : List GV} {ys : List GE} {k : NestedKey} {b v : V} {bu u : Value} (h : GX xs ys) (rb : RelV b bu) (r : RelV v u) : GX (putGX xs k b v) (gPut ys k bu u) := by
  unfold putGX gPut
  rw [gx_find h]
  split
  · exact gx_map r h
  · exact Paired.snoc h ⟨rfl, rb, r⟩
theorem krk_find : ∀ {l : List (D × D)} {xs : List GV} {d : D} {k : NestedKey}, KRk S I l xs → KeyG d k → (lkD l d).isSome = (xs.find? fun x => decide (x.1 = k)).isSome
  | _, _, _, _, .nil, _ => rfl
  | p :: l, q :: xs, d, k, .cons h t, hk => by
    by_cases e : q.1 = k
    · have e1 : p.1.nk = d.nk := by rw [h.1.1, hk.1, e]
      have a1 : lkD (p :: l) d = some p.2 := by unfold lkD; rw [List.find?_cons_of_pos (by simpa using e1)]; rfl
      rw [a1, List.find?_cons_of_pos (by simpa using e)]; rfl
    · have e1 : ¬ p.1.nk = d.nk := by rw [h.1.1, hk.1]; intro z; exact e (Option.some.inj z)
      have a1 : lkD (p :: l) d = lkD l d := by unfold lkD; rw [List.find?_cons_of_neg (by simpa using e1)]
      rw [a1, List.find?_cons_of_neg (by simpa using e)]
      exact krk_find t hk
theorem krk_map {k : NestedKey} {d e : D} {v : V} (hk : KeyG d k) (re : Rp S I e v) {l : List (D × D)} {xs : List GV} (h : KRk S I l xs) : KRk S I (l.map (fun p => if p.1.nk = d.nk then (p.1, e) else p)) (xs.map (fun x => if x.1 = k then (x.1, x.2.1, v) else x)) := by
  induction h with
  | nil => exact .nil
  | @cons p q ps qs g t ih =>
    rw [List.map_cons, List.map_cons]
    refine .cons ?_ ih
    by_cases c : q.1 = k
    · rw [if_pos c, if_pos (by rw [g.1.1, hk.1, c])]; exact ⟨g.1, g.2.1, re⟩
    · rw [if_neg c, if_neg (by rw [g.1.1, hk.1]; exact fun z => c (Option.some.inj z))]; exact g
theorem krk_put {l : List (D × D)} {xs : List GV} {d e : D} {k : NestedKey} {b v : V} (h : KRk S I l xs) (hk : KeyG d k) (rd : Rp S I d b) (re : Rp S I e v) : KRk S I (putD l d e) (putGX xs k b v) := by
  unfold putD putGX
  rw [krk_find h hk]
  split
  · exact krk_map hk re h
  · exact Paired.snoc h ⟨hk, rd, re⟩
theorem putGX_len (xs : List GV) (k : NestedKey) (b v : V) : (putGX xs k b v).length ≤ xs.length + 1 := by
  unfold putGX
  split
  · rw [List.length_map]; omega
  · rw [List.length_append]; exact Nat.le_refl _
end
/-! ### the dict as the library tells it -/
section
variable {X : Cx} {pins : List (Addr × Obj)} {σ : L2.St} {H : Hp} {s : Shared} {J : Hp} {S : Sx} {a : Addr} {l : List (D × D)} {xs : List GV}
theorem gkey_at (I : Inv X pins σ H s) (sm : Same J H) (hK : S.K = X.K) {d : D} {k : NestedKey} {v : V} {u : Value} (r : Rp S J d v) (hk : KeyG d k) (rv : RelV v u) : gKey s.heap k u := ⟨nk_is I sm hK d r hk.1 rv, hk.2.1, hk.2.2⟩
theorem krk_keys (I : Inv X pins σ H s) (sm : Same J H) (hK : S.K = X.K) : ∀ {l : List (D × D)} {xs : List GV} {ys : List GE}, KRk S J l xs → GX xs ys → ∀ y ∈ ys, gKey s.heap y.1 y.2.1
  | _, _, _, .nil, .nil, _, h => nomatch h
  | p :: l, q :: xs, y :: ys, .cons h t, .cons g t', z, hz => by
    rcases List.mem_cons.mp hz with rfl | hz
    · obtain ⟨h1, h2, h3⟩ := h
      rw [← g.1]
      exact gkey_at I sm hK h2 h1 g.2.1
    · exact krk_keys I sm hK t t' z hz
theorem gdo_at (I : Inv X pins σ H s) (sm : Same J H) (hK : S.K = X.K) (ha : H a = some (GDO X.w a xs)) (r : KRk S J l xs) : ∃ ys, GX xs ys ∧ ys.length ≤ sizeLine ∧ (a == sysModules) = false ∧ GDict X.w s.heap a ys := by
  obtain ⟨ys, p, h1, h2, o, es, ep, g1, g2, g3, g4, g5⟩ := (show ObjOk X.prog X.w H s.heap a (GDO X.w a xs) from I.hok a _ ha).1
  exact ⟨ys, p, h1, h2, o, es, ep, g1, g2, g3, g4, krk_keys I sm hK r p, g5⟩
theorem gdo_new {h' : Heap} {ys : List GE} {H' : Hp} (p : GX xs ys) (hl : ys.length ≤ sizeLine) (ha : (a == sysModules) = false) (dd : GDict X.w h' a ys) : ObjOk X.prog X.w H' h' a (GDO X.w a xs) := by
  obtain ⟨o, es, ep, g1, g2, g3, g4, g5, g6⟩ := dd
  exact gdo_ok p ⟨hl, ha, o, es, ep, g1, g2, g3, g4, g6⟩
theorem gdo_empty {H' : Hp} (h : Heap) (hb : sysModules < h.objs.size) : ObjOk X.prog X.w H' (h.push { cls := .type "dict", data := .dict #[] }) h.objs.size (GDO X.w h.objs.size []) :=
  gdo_new (ys := []) .nil (Nat.zero_le _) (beq_eq_false_iff_ne.mpr (Ne.symm (Nat.ne_of_lt hb))) (GDict.new h)
def IsG (X : Cx) (H : Hp) (a : Addr) : Prop := ∃ xs, H a = some (GDO X.w a xs)
theorem isG_at (I : Inv X pins σ H s) (d : IsG X H a) : s.TypeIs (.ref a) "dict" ∧ (∀ b, Value.ref a = .ref b → ∃ ob, s.heap.get? b = some ob ∧ ob.dict = none) ∧ (a == sysModules) = false := by
  obtain ⟨xs, ha⟩ := d
  obtain ⟨ys, p, h1, h2, o, es, ep, g1, g2, g3, g4, g5⟩ := (show ObjOk X.prog X.w H s.heap a (GDO X.w a xs) from I.hok a _ ha).1
  exact ⟨⟨o, g1, g2.1⟩, fun b q => by cases q; exact ⟨o, g1, g2.2.1⟩, h2⟩
end
/-! ### the operations -/
section
variable {X : Cx}
def rInG (X : Cx) (neg : Bool) : R2 := fun x y H Q => ∃ (S : Sx) (J : Hp) (a : Addr) (d : D) (l : List (D × D)) (xs : List GV), S.K = X.K ∧ Same J H ∧ y = .ref a ∧ Rp S J d x ∧ KeyD d ∧ H a = some (GDO X.w a xs) ∧ KRk S J l xs ∧ Q (.bl (if neg then !(lkD l d).isSome else (lkD l d).isSome)) H
theorem op_notInG (hu : X.A.units + 9 < cLine) : OpR X (compareOp .NotIn) (rInG X true) := by
  intro pins s σ H x y v u Q I rx ry h
  obtain ⟨S, J, a, d, l, xs, hK, sm, rfl, rd, ⟨k, hk⟩, ha, r, q⟩ := h
  cases ry
  obtain ⟨ys, p, hl, hs, dd⟩ := gdo_at I sm hK ha r
  have kk := gkey_at I sm hK rd hk rx
  show wpAny (model X.prog X.w) X.A (do return Value.bool (!(← contains (.ref a) v))) _ _ s
  refine wpAny_bind (g_contains hu kk hs dd (wpAny_pure ?_))
  rw [← krk_some r p hk]
  exact ⟨.bl (!(lkD l d).isSome), H, I.tok _, rfl, q⟩
/-- d[k] -/
def rGetG (X : Cx) : R2 := fun x y H Q => ∃ (S : Sx) (J : Hp) (a : Addr) (d e : D) (l : List (D × D)) (xs : List GV), S.K = X.K ∧ Same J H ∧ x = .ref a ∧ Rp S J d y ∧ KeyD d ∧ H a = some (GDO X.w a xs) ∧ KRk S J l xs ∧ lkD l d = some e ∧ ∀ w, Rp S J e w → Q w H
variable {o i e f : Expr} {pos pos' apos cpos : Pos} {td ty tv tf : TE}
theorem pe_dgetG (hu : X.A.units + 9 < cLine) (ho : PE X o td) (hi : PE X i ty) (hs : NoSl i) : PE X (.Subscript o i pos) (tOp (rGetG X) td ty) := by
  refine ⟨fun pins s σ H Q I h => ?_⟩
  refine subD_of PySem.F.slot_dict_getitem.lookup hs (thn (ho.run pins s σ H _ I h) fun u s1 ⟨x, H1, I1, rx, q1⟩ => thn (hi.run pins s1 σ H1 _ I1 q1) fun iv s2 ⟨y, H2, I2, ry, q2⟩ => ?_)
  obtain ⟨S, J, a, d, e, l, xs, hK, sm, rfl, rd, ⟨k, hk⟩, ha, r, hl, q⟩ := q2
  cases rx
  obtain ⟨ys, p, hl', hs', dd⟩ := gdo_at I2 sm hK ha r
  refine ⟨dd.typeIs, ?_⟩
  have z := krk_lk r p hk
  rw [hl] at z
  cases e2 : gAt ys k with
  | none => rw [e2] at z; exact z.elim
  | some pr =>
    rw [e2] at z
    obtain ⟨w, g1, g2⟩ := z
    exact g_item hu (gkey_at I2 sm hK rd hk ry) dd e2 ⟨w, H2, I2.tok _, g2, q w g1⟩
/-- d.get(k, f) -/
def tGet2G (X : Cx) (td ty tf : TE) : TE := fun σ H Q => td σ H fun x H1 => (∃ a, x = .ref a ∧ IsG X H1 a) ∧ ty σ H1 fun y H2 => tf σ H2 fun z H3 => ∃ (S : Sx) (J : Hp) (a : Addr) (d e : D) (l : List (D × D)) (xs : List GV), S.K = X.K ∧ Same J H3 ∧ x = .ref a ∧ Rp S J d y ∧ Rp S J e z ∧ KeyD d ∧ H3 a = some (GDO X.w a xs) ∧ KRk S J l xs ∧ ∀ w, Rp S J ((lkD l d).getD e) w → Q w H3
theorem pe_dget2G (hu : X.A.units + 9 < cLine) (ho : PE X o td) (he : PE X e ty) (hf : PE X f tf) (m : M2 X o "get" apos e f cpos) : PE X (.Call (.Attribute o "get" apos) [e, f] [] cpos) (tGet2G X td ty tf) := by
  refine ⟨fun pins s σ H Q I h => ?_⟩
  refine wpAny_Call_method m.base m.few m.line PySem.F.plainAttrs_dict PySem.F.slot_dict_get PySem.F.type_dict_get (thn (ho.run pins s σ H _ I h) fun u s1 ⟨x, H1, I1, rx, ⟨a, ex, dn⟩, q1⟩ => ?_)
  subst ex
  obtain rfl : u = Value.ref a := rx
  obtain ⟨t1, t2, _⟩ := isG_at I1 dn
  refine ⟨t1, t2, ?_⟩
  rw [m.trees]
  refine Calls.callWith_builtin rfl (Calls.evalArgs_plain (Calls.spliced_cons (thn (he.run pins s1 σ H1 _ I1 q1) fun iv s2 ⟨y, H2, I2, ry, q2⟩ => Calls.spliced_cons (thn (hf.run pins s2 σ H2 _ I2 q2) fun fv s3 ⟨z, H3, I3, rz, q3⟩ => Calls.spliced_nil ?_))))
  obtain ⟨S, J, a', d, e, l, xs, hK, sm, ea, rd, rf, ⟨k, hk⟩, ha, r, q⟩ := q3
  cases ea
  obtain ⟨ys, p, hl', hs, dd⟩ := gdo_at I3 sm hK ha r
  have z := krk_lk r p hk
  refine call_meetsIn F.slot_dict_get dd.typeIs F.entry_dict_get (F.args_dict_get_3 _ _ _) (g_meet2 hs fv) ⟨hu, k, ys, gkey_at I3 sm hK rd hk ry, dd, ?_⟩
  cases e1 : lkD l d with
  | none =>
    rw [e1] at z q
    cases e2 : gAt ys k with
    | some v => rw [e2] at z; exact z.elim
    | none => exact ⟨_, H3, I3.tok _, rz, q _ rf⟩
  | some e =>
    rw [e1] at z q
    cases e2 : gAt ys k with
    | none => rw [e2] at z; exact z.elim
    | some v =>
      rw [e2] at z
      obtain ⟨w, g1, g2⟩ := z
      exact ⟨w, H3, I3.tok _, g2, q w g1⟩
/-- d[k] = v -/
def sPutGT (X : Cx) (td ty tv : TE) : TS := fun Z σ H => tv σ H fun v H1 => td σ H1 fun x H2 => ty σ H2 fun y H3 => ∃ (S : Sx) (J : Hp) (a : Addr) (d : D) (k : NestedKey) (l : List (D × D)) (xs : List GV), S.K = X.K ∧ Same J H3 ∧ x = .ref a ∧ Rp S J d y ∧ KeyG d k ∧ H3 a = some (GDO X.w a xs) ∧ KRk S J l xs ∧ xs.length < sizeLine ∧ Z.nx σ (upd H3 a (GDO X.w a (putGX xs k y v)))
theorem gx_len {xs : List GV} {ys : List GE} (h : GX xs ys) : xs.length = ys.length := Paired.length h
theorem ps_putG {value : Expr} (hu : X.A.units + 9 < cLine) (ho : PE X o td) (hi : PE X i ty) (hv : PE X value tv) (hs : swapsWith value (some (.Subscript o i pos')) pos.line X.env = pure false) : PS X (.Assign [.Subscript o i pos'] value pos) (sPutGT X td ty tv) := by
  refine ⟨fun pins s σ H D I h => ?_⟩
  refine wpAny_Assign_Subscript (thn (hv.run pins s σ H _ I h) fun r s1 ⟨v, H1, I1, rv, q1⟩ => thn (ho.run pins s1 σ H1 _ I1 q1) fun u s2 ⟨x, H2, I2, rx, q2⟩ => thn (hi.run pins s2 σ H2 _ I2 q2) fun iv s3 ⟨y, H3, I3, ry, S, J, a, d, k, l, xs, hK, sm, ex, rd, hk, ha, r', hl, q3⟩ => ?_) hs
  subst ex
  obtain rfl : u = Value.ref a := rx
  obtain ⟨ys, p, hl', hsm, dd⟩ := gdo_at I3 sm hK ha r'
  refine g_setItem hu (gkey_at I3 sm hK rd hk ry) dd hl' fun h' dd' sb => ?_
  have he : ∃ q, h'.get? a = some q := let ⟨q, _, _, hq, _⟩ := dd'; ⟨q, hq⟩
  refine ⟨σ, _, d_write I3 (by rw [ha]; exact True.intro) sb he (gdo_new (gx_put p ry rv) ?_ hsm dd'), q3⟩
  have e1 := gx_len (gx_put (k := k) p ry rv)
  have e2 := putGX_len xs k y v
  omega
/-- {} -/
def tNewG (X : Cx) : TE := fun _ H Q => ∀ p, H p = none → Q (.ref p) (upd H p (GDO X.w p []))
theorem pe_dnewG : PE X (.Dict [] [] pos) (tNewG X) := ⟨fun pins s σ H Q I h =>
  wpAny_Dict_empty ⟨.ref s.heap.objs.size, _, I.laid (a := s.heap.objs.size) (o := GDO X.w s.heap.objs.size []) (t' := s.toks) (fun _ _ q => Heap.get?_push_of_some _ q) (Nat.le_refl _) (gdo_empty s.heap I.big), rfl, h _ (I.hok.fresh (Nat.le_refl _))⟩⟩
/-- d.setdefault(k, f) -/
def tSetdG (X : Cx) (td ty tf : TE) : TE := fun σ H Q => td σ H fun x H1 => (∃ a, x = .ref a ∧ IsG X H1 a) ∧ ty σ H1 fun y H2 => tf σ H2 fun z H3 => ∃ (S : Sx) (J : Hp) (a : Addr) (d e : D) (k : NestedKey) (l : List (D × D)) (xs : List GV), S.K = X.K ∧ Same J H3 ∧ x = .ref a ∧ Rp S J d y ∧ Rp S J e z ∧ KeyG d k ∧ H3 a = some (GDO X.w a xs) ∧ KRk S J l xs ∧ xs.length < sizeLine ∧
  ((∀ f, lkD l d = some f → ∀ w, Rp S J f w → Q w H3) ∧ (lkD l d = none → Q z (upd H3 a (GDO X.w a (putGX xs k y z)))))
theorem pe_dsetdG (hu : X.A.units + 9 < cLine) (ho : PE X o td) (he : PE X e ty) (hf : PE X f tf) (m : M2 X o "setdefault" apos e f cpos) : PE X (.Call (.Attribute o "setdefault" apos) [e, f] [] cpos) (tSetdG X td ty tf) := by
  refine ⟨fun pins s σ H Q I h => ?_⟩
  refine wpAny_Call_method m.base m.few m.line PySem.F.plainAttrs_dict PySem.F.slot_dict_setdefault PySem.F.type_dict_setdefault (thn (ho.run pins s σ H _ I h) fun u s1 ⟨x, H1, I1, rx, ⟨a, ex, dn⟩, q1⟩ => ?_)
  subst ex
  obtain rfl : u = Value.ref a := rx
  obtain ⟨t1, t2, _⟩ := isG_at I1 dn
  refine ⟨t1, t2, ?_⟩
  rw [m.trees]
  refine Calls.callWith_builtin rfl (Calls.evalArgs_plain (Calls.spliced_cons (thn (he.run pins s1 σ H1 _ I1 q1) fun iv s2 ⟨y, H2, I2, ry, q2⟩ => Calls.spliced_cons (thn (hf.run pins s2 σ H2 _ I2 q2) fun fv s3 ⟨z, H3, I3, rz, q3⟩ => Calls.spliced_nil ?_))))
  obtain ⟨S, J, a', d, e, k, l, xs, hK, sm, ea, rd, rf, hk, ha, r, hl, q1, q2⟩ := q3
  cases ea
  obtain ⟨ys, p, hl', hs, dd⟩ := gdo_at I3 sm hK ha r
  have z0 := krk_lk r p hk
  refine call_meetsIn F.slot_dict_setdefault dd.typeIs F.entry_dict_setdefault (F.args_dict_setdefault_3 _ _ _) (g_meetD hs fv) ⟨hu, k, ys, gkey_at I3 sm hK rd hk ry, dd, hl', fun v hv => ?_, fun hn h' dd' sb => ?_⟩
  · cases e1 : lkD l d with
    | none => rw [e1, hv] at z0; exact z0.elim
    | some f =>
      rw [e1, hv] at z0
      obtain ⟨w, g1, g2⟩ := z0
      exact ⟨w, H3, I3.tok _, g2, q1 f e1 w g1⟩
  · cases e1 : lkD l d with
    | some f => rw [e1, hn] at z0; exact z0.elim
    | none =>
      have he : ∃ q, h'.get? a = some q := let ⟨q, _, _, hq, _⟩ := dd'; ⟨q, hq⟩
      refine ⟨z, _, d_write I3 (by rw [ha]; exact True.intro) sb he (gdo_new (gx_put p ry rz) ?_ hs dd'), rz, q2 e1⟩
      have e1 := gx_len (gx_put (k := k) p ry rz)
      have e2 := putGX_len xs k y z
      omega
end
end L2.NW
end
section
set_option Elab.async false
set_option autoImplicit false
set_option linter.all false
set_option maxRecDepth 100000
set_option maxHeartbeats 2000000
/-! NzB: dicts of any keys: the judgements. -/
namespace L2.NW
open PySem PySem.Spec PyProof.Rows
/-! ### a dict of one's own -/
def inG (neg : Bool) : Sl → D → WP D
  | .ok l, d => WP.need (KeyD d) (pure (.bl (if neg then !(lkD l d).isSome else (lkD l d).isSome)))
  | _, _ => WP.bad
theorem oo_inG {X : Cx} {κ : Cp} (neg : Bool) : OpO (Sx.of X κ) (fun x y => rInG X neg y x) (inG neg) := by
  refine ⟨fun s d h => (by cases s <;> first | rfl | cases h), fun I H b s a d v Q E sr w rv k => ?_⟩
  cases s <;> first | exact k.elim | skip
  rename_i l
  obtain ⟨hk, k⟩ := k
  obtain ⟨xs, h1, h2⟩ := w
  exact ⟨Sx.of X κ, I, a, d, l, xs, rfl, sr.sub, rfl, rv, hk, h1, h2, k _ I H .refl sr (by simp [Rp])⟩
def getG : Sl → D → WP D
  | .ok l, d => WP.need (KeyD d) (match lkD l d with | some e => pure e | none => WP.bad)
  | _, _ => WP.bad
theorem oo_getG {X : Cx} {κ : Cp} : OpO (Sx.of X κ) (rGetG X) getG := by
  refine ⟨fun s d h => (by cases s <;> first | rfl | cases h), fun I H b s a d v Q E sr w rv k => ?_⟩
  cases s <;> first | exact k.elim | skip
  rename_i l
  obtain ⟨hk, k⟩ := k
  obtain ⟨xs, h1, h2⟩ := w
  cases e : lkD l d with
  | none => rw [e] at k; exact k.elim
  | some c =>
    rw [e] at k
    exact ⟨Sx.of X κ, I, a, d, c, l, xs, rfl, sr.sub, rfl, rv, hk, h1, h2, e, fun w rw' => k _ I H .refl sr rw'⟩
def isOk (ρ : Env') (i : Nat) : Prop := ∃ l, ρ[i]? = some (.ok l)
section
variable {X : Cx} {κ : Cp} {W : WX} {E : XK} {a b e f value : Expr} {x y : Str} {pos pn pos' cpos apos pf : Pos} {ta tb te tf tv tk : EW} {i j : Nat}
theorem ok_at {S : Sx} {I H : Hp} {ρ : Env'} {σ : St} {l : List (D × D)} (er : ER S κ I H ρ σ) (h : ρ[i]? = some (.ok l)) : ∃ a, σ[i]? = some (some (.ref a)) ∧ ¬ Nt κ.h0 a ∧ I a = none ∧ a ≠ S.p.a ∧ ∃ xs, H a = some (GDO S.w a xs) ∧ KRk S I l xs := by
  have il : i < σ.length := by rw [← er.len]; exact (List.getElem?_eq_some_iff.mp h).1
  have hs : σ[i]? = some σ[i] := List.getElem?_eq_getElem il
  obtain ⟨a, ha, h1, h2, h3, w⟩ := er.at_ i _ _ h hs
  exact ⟨a, by rw [hs, ha], h1, h2, h3, w⟩
theorem dt_notInG (hu : X.A.units + 9 < cLine) (ha : DE X κ W a ta) (hv : PE X (.Name x pn) (tVar i)) (hm : behindInMarks .NotIn (.Name x pn) = false := by rfl) : DT X κ W (.Compare a [.NotIn] [.Name x pn] pos) (bOwn i (inG true) ta) := dt_cmpO (op_notInG hu) (oo_inG true) ha hv hm
theorem de_getG (hu : X.A.units + 9 < cLine) (hv : PE X (.Name x pn) (tVar i)) (hb : DE X κ W b tb) (hs : NoSl b := by exact fun _ _ => rfl) : DE X κ W (.Subscript (.Name x pn) b pos) (eOwnL i getG tb) := PE.imp (pe_dgetG hu hv hb hs) (tOwnL oo_getG)
/-- d.get(k, f) -/
def eGet2G (i : Nat) (tb tf : EW) : EW := fun ρ => WP.need (isOk ρ i) (do
  let k ← tb ρ
  let f ← tf ρ
  match ρ[i]? with
  | some (.ok l) => WP.need (KeyD k) (pure ((lkD l k).getD f))
  | _ => WP.bad)
theorem de_get2G (hu : X.A.units + 9 < cLine) (hv : PE X (.Name x pn) (tVar i)) (hb : DE X κ W b tb) (hf : DE X κ W f tf) (m : M2 X (.Name x pn) "get" apos b f cpos := by exact ⟨rfl, rfl, rfl, rfl⟩) : DE X κ W (.Call (.Attribute (.Name x pn) "get" apos) [b, f] [] cpos) (eGet2G i tb tf) :=
  PE.imp (pe_dget2G hu hv hb hf m) fun σ H Q ⟨I, ρ, b, sr, er, ⟨⟨l, hn⟩, h⟩⟩ => by
    obtain ⟨a, ha, _, _, hp, xs, h1, h2⟩ := ok_at er hn
    refine ⟨.ref a, ha, ⟨a, rfl, xs, h1⟩, tD_bind sr er h fun d b1 v I1 H1 x1 s1 er1 r1 h1 => ?_⟩
    refine tD_bind s1 er1 h1 fun d2 b2 v2 I2 H2 x2 s2 er2 r2 h2 => ?_
    rw [hn] at h2
    obtain ⟨hk, h2⟩ := h2
    obtain ⟨a', ha', _, _, _, ys, g1, g2⟩ := ok_at er2 hn
    rw [ha] at ha'
    cases ha'
    exact ⟨Sx.of X κ, I2, a, d, d2, l, ys, rfl, s2.sub, rfl, r1.same x2.ii, r2, hk, g1, g2, fun w rw' => h2 w I2 H2 (x1.trans x2) s2 rw'⟩
/-- len(d) -/
def eLenG (i : Nat) : EW := fun ρ => match ρ[i]? with
  | some (.ok l) => pure (.int ((l.length : Nat) : Int))
  | _ => WP.bad
/-- d[k] = v -/
def sPutG (i : Nat) (tk tv : EW) : SW := fun ρ => WP.need (isOk ρ i) (do
  let v ← tv ρ
  let k ← tk ρ
  match ρ[i]? with
  | some (.ok l) => WP.need (KeyD k ∧ l.length < sizeLine) (pure (.nx (ρ.set i (.ok (putD l k v)))))
  | _ => WP.bad)
theorem ds_putG (hu : X.A.units + 9 < cLine) (hv : PE X (.Name x pn) (tVar i)) (hk : DE X κ (wOf E) b tb) (he : DE X κ (wOf E) value tv) (hs : swapsWith value (some (.Subscript (.Name x pn) b pos')) pos.line X.env = pure false := by rfl) : DS X κ E (.Assign [.Subscript (.Name x pn) b pos'] value pos) (sPutG i tb tv) :=
  PS.imp (ps_putG hu hv hk he hs) fun Z σ H ⟨I, ρ, b, w, ⟨⟨l, hn⟩, h⟩⟩ => by
    refine ds_ofE w h fun d b1 v I1 H1 w1 x1 r1 h1 => ?_
    obtain ⟨a, ha, hf, hi, hp, xs, g1, g2⟩ := ok_at w1.er hn
    refine ⟨.ref a, ha, ds_ofE w1 ((WP.mono _ h1 (fun _ _ z => z.later x1.ii) fun _ _ z => z)) fun k b2 u I2 H2 w2 x2 r2 h2 => ?_⟩
    rw [hn] at h2
    obtain ⟨⟨⟨k', hk⟩, hl⟩, h2⟩ := h2
    have p1 : H2 a = some (GDO X.w a xs) := x2.hh a _ g1 hp id
    have n2 : I2 a = none := x2.nn a ⟨_, g1, id⟩ hi
    have g2' : KRk (Sx.of X κ) I2 l xs := g2.same x2.ii
    have re : Rp (Sx.of X κ) I2 d v := r1.same x2.ii
    refine ⟨Sx.of X κ, I2, a, k, k', l, xs, rfl, w2.sr.sub, rfl, r2, hk, p1, g2', by rw [← Paired.length g2]; exact hl, ?_⟩
    refine h2 σ I2 _ ⟨w2.sr.updOwn n2 hp p1 plain_gdo plain_gdo, ?_, w2.st.own hf⟩ x2.ii
    exact w2.er.change hn rfl ha p1 (fun y z => by cases z) (fun y z => by cases z) ⟨a, rfl, hf, n2, hp, _, upd_same, krk_put g2' hk r2 re⟩
/-- d.setdefault(k, f), as a statement -/
def sSetdG (i : Nat) (tk tf : EW) : SW := fun ρ => WP.need (isOk ρ i) (do
  let k ← tk ρ
  let f ← tf ρ
  match ρ[i]? with
  | some (.ok l) => WP.need (KeyD k ∧ l.length < sizeLine) (pure (.nx (ρ.set i (.ok (if (lkD l k).isSome then l else putD l k f)))))
  | _ => WP.bad)
theorem er_self {S : Sx} {I H : Hp} {ρ : Env'} {σ : St} {s : Sl} (e : ER S κ I H ρ σ) (h : ρ[i]? = some s) : ER S κ I H (ρ.set i s) σ := by
  have : ρ.set i s = ρ := by
    obtain ⟨hl, he⟩ := List.getElem?_eq_some_iff.mp h
    rw [← he, List.set_getElem_self]
  rw [this]; exact e
theorem ds_setdG (hu : X.A.units + 9 < cLine) (hv : PE X (.Name x pn) (tVar i)) (hk : DE X κ (wOf E) b tb) (hf : DE X κ (wOf E) f tf) (m : M2 X (.Name x pn) "setdefault" apos b f cpos := by exact ⟨rfl, rfl, rfl, rfl⟩)
    (hs : swapsWith (.Call (.Attribute (.Name x pn) "setdefault" apos) [b, f] [] cpos) none pos.line X.env = pure false := by rfl) : DS X κ E (.Expr (.Call (.Attribute (.Name x pn) "setdefault" apos) [b, f] [] cpos) pos) (sSetdG i tb tf) :=
  PS.imp (ps_expr (pe_dsetdG hu hv hk hf m) hs) fun Z σ H ⟨I, ρ, b, w, ⟨⟨l, hn⟩, h⟩⟩ => by
    obtain ⟨a, ha, hff, hi, hp, xs, g1, g2⟩ := ok_at w.er hn
    refine ⟨.ref a, ha, ⟨a, rfl, xs, g1⟩, ds_ofE w h fun d b1 v I1 H1 w1 x1 r1 h1 => ?_⟩
    refine ds_ofE w1 ((WP.mono _ h1 (fun _ _ z => z.later x1.ii) fun _ _ z => z)) fun k b2 u I2 H2 w2 x2 r2 h2 => ?_
    rw [hn] at h2
    obtain ⟨⟨⟨k', hk⟩, hl⟩, h2⟩ := h2
    obtain ⟨a', ha', hf2, n2, hp2, ys, p1, g2'⟩ := ok_at w2.er hn
    rw [ha] at ha'
    cases ha'
    have rd : Rp (Sx.of X κ) I2 d v := r1.same x2.ii
    refine ⟨Sx.of X κ, I2, a, d, k, k', l, ys, rfl, w2.sr.sub, rfl, rd, r2, hk, p1, g2', by rw [← Paired.length g2']; exact hl, fun f' hf' wv _ => ?_, fun hno => ?_⟩
    · rw [hf'] at h2
      exact h2 σ I2 H2 ⟨w2.sr, er_self w2.er hn, w2.st⟩ x2.ii
    · rw [hno] at h2
      refine h2 σ I2 _ ⟨w2.sr.updOwn n2 hp p1 plain_gdo plain_gdo, ?_, w2.st.own hf2⟩ x2.ii
      exact w2.er.change hn rfl ha p1 (fun y z => by cases z) (fun y z => by cases z) ⟨a, rfl, hf2, n2, hp, _, upd_same, krk_put g2' hk rd r2⟩
/-! ### displays -/
theorem dx_dicG0 : DX X κ W (.Dict [] [] pos) (fun _ => pure (.ok [])) :=
  PE.imp pe_dnewG fun σ H Q ⟨I, ρ, b, sr, er, h⟩ p hp => h (.ref p) I _ (Stp.newOwn hp) (sr.newOwn hp plain_gdo) ⟨rfl, fun _ _ _ z => (by cases z), p, rfl, not_nt hp, sr.sub.free hp, [], upd_same, .nil⟩
end
/-! ### a dict that stays -/
theorem krk_in {S : Sx} {I : Hp} : ∀ {ks vs : List D} {xs : List GV}, KeysG ks xs → Rps S I ks (xs.map (·.2.1)) → Rps S I vs (xs.map (·.2.2)) → KRk S I (ks.zip vs) xs
  | _, vs, [], .nil, _, h => by
    cases vs with
    | nil => exact .nil
    | cons d vs => simp [Rps] at h
  | k :: ks, vs, x :: xs, .cons h t, hk, hv => by
    cases vs with
    | nil => simp [Rps] at hv
    | cons d vs =>
      simp only [List.map_cons, Rps] at hk hv
      obtain ⟨v, ws, e, h1, h2⟩ := hk
      obtain ⟨v', ws', e', h1', h2'⟩ := hv
      cases e; cases e'
      exact .cons ⟨h, h1, h1'⟩ (krk_in t h2 h2')
def ixG (x y : D) : WP D := match x with
  | .dct ks vs => WP.need (KeyD y) (match lkD (ks.zip vs) y with | some e => pure e | none => WP.bad)
  | _ => WP.bad
theorem o2_ixG {X : Cx} {κ : Cp} : Op2 (Sx.of X κ) (rGetG X) ixG := by
  intro I H b x y v u Q E sr rx ry k
  cases x <;> first | exact k.elim | skip
  rename_i ks vs
  simp only [Rp] at rx
  obtain ⟨a, xs, rfl, h1, h2, h3, h4⟩ := rx
  obtain ⟨hk, k⟩ := k
  cases e : lkD (ks.zip vs) y with
  | none => rw [e] at k; exact k.elim
  | some c =>
    rw [e] at k
    exact ⟨Sx.of X κ, I, a, y, c, ks.zip vs, xs, rfl, sr.sub, rfl, ry, hk, sr.sub _ _ h1, krk_in h2 h3 h4, e, fun w rw' => k _ I H .refl sr rw'⟩
def inGD (neg : Bool) (x y : D) : WP D := match y with
  | .dct ks vs => WP.need (KeyD x) (pure (.bl (if neg then !(lkD (ks.zip vs) x).isSome else (lkD (ks.zip vs) x).isSome)))
  | _ => WP.bad
section
variable {X : Cx} {κ : Cp} {W : WX} {a b : Expr} {pos : Pos} {ta tb : EW}
/-- d[k], d data -/
theorem de_ixG (hu : X.A.units + 9 < cLine) (ha : DE X κ W a ta) (hb : DE X κ W b tb) (hs : NoSl b := by exact fun _ _ => rfl) : DE X κ W (.Subscript a b pos) (e2 ixG ta tb) := PE.imp (pe_dgetG hu ha hb hs) (tD2 o2_ixG)
end
end L2.NW
end
section
set_option Elab.async false
set_option autoImplicit false
set_option linter.all false
set_option maxRecDepth 100000
set_option maxHeartbeats 2000000
/-! NzC: x in l, l.index(x), l * n fresh, own lists looked through, l + m of an own l, x = x if .. else ... -/
namespace L2.NW
open PySem PySem.Spec PyProof.Rows
/-! ### x in y, y a list or a tuple of data -/
section
variable {X : Cx}
/-- x in y, y a tuple: what the library reads of both -/
def rInTp (K : PySem.W.Frag) (neg : Bool) : R2 := fun x y H Q => ∃ d ds, Dp K H x d ∧ Dp K H y (.tuple ds) ∧ SeqAt.shaped d = true ∧ PyData.canLayAll0 ds = true ∧ Q (.bl (if neg then !(ds.any fun z => PyData.eqv z d) else ds.any fun z => PyData.eqv z d)) H
def rInLT (K : PySem.W.Frag) : Bool → R2
  | false => fun x y H Q => rInD K x y H Q ∨ rInTp K false x y H Q
  | true => fun x y H Q => rNotInD K x y H Q ∨ rInTp K true x y H Q
theorem op_inTp (hu : X.A.units + 66 < cLine) : OpR X (compareOp .In) (rInTp X.K false) := fun pins s σ H x y v u Q I rx ry ⟨d, ds, hd, he, sd, c3, q⟩ =>
  let ⟨_, r1⟩ := Dp.reads I d x v hd rx
  let ⟨_, r2⟩ := Dp.reads I (.tuple ds) y u he ry
  SeqAt.in_tuple_reads r2 r1 c3 (SeqAt.canLay_of_shaped sd) (room_in_shaped sd (by omega)) ⟨.bl _, H, I, rfl, q⟩
theorem op_notInTp (hu : X.A.units + 66 < cLine) : OpR X (compareOp .NotIn) (rInTp X.K true) := fun pins s σ H x y v u Q I rx ry ⟨d, ds, hd, he, sd, c3, q⟩ =>
  let ⟨_, r1⟩ := Dp.reads I d x v hd rx
  let ⟨_, r2⟩ := Dp.reads I (.tuple ds) y u he ry
  SeqAt.notIn_tuple_reads r2 r1 c3 (SeqAt.canLay_of_shaped sd) (room_in_shaped sd (by omega)) ⟨.bl _, H, I, rfl, q⟩
theorem op_inLT (hu : X.A.units + 66 < cLine) : OpR X (compareOp .In) (rInLT X.K false) := OpR.or (op_inD (by omega)) (op_inTp hu)
theorem op_notInLT (hu : X.A.units + 66 < cLine) : OpR X (compareOp .NotIn) (rInLT X.K true) := OpR.or (op_notInD (by omega)) (op_notInTp hu)
end
/-- is d among l -/
def memD (l : List D) (d : D) : Bool := l.any fun z => D.eq z d
theorem memD_any (l : List D) (d : D) : ((D.pys l).any fun z => PyData.eqv z d.py) = memD l d := by
  rw [D.pys_map, List.any_map]; rfl
def inL (neg : Bool) (x y : D) : WP D := match y with
  | .lst l => WP.need (D.deep 64 x ∧ D.deeps 63 l) (pure (.bl (if neg then !memD l x else memD l x)))
  | .tup l => WP.need (D.deep 64 x ∧ D.deeps 63 l) (pure (.bl (if neg then !memD l x else memD l x)))
  | _ => WP.bad
/-- a list of data, wherever it stands -/
theorem rin_list {S : Sx} {I H : Hp} {b : Nat} {neg : Bool} {x : D} {v : V} {a : Addr} {l : List D} {vs : List V} {Q : VK} {E : Ex → Nat → Prop} (sr : SR S I H b) (rx : Rp S I x v) (ha : H a = some (.lst vs)) (rl : Rps S I l vs) (d1 : D.deep 64 x) (d2 : D.deeps 63 l)
    (k : ((pure (.bl (if neg then !memD l x else memD l x)) : WP D)).run b (KD S I H Q) E) : rInLT S.K neg v (.ref a) H Q := by
  have dx := D.dp sr.sub 64 x v d1 rx
  have dl : Dp S.K H (.ref a) (.list (D.pys l)) := .lst (SqL.of ha) (D.dps sr.sub 63 l vs d2 rl)
  have sl : SeqAt.shaped (.list (D.pys l)) = true := by simpa [D.py] using D.shaped (d := .lst l) (by simp only [D.deep]; exact ⟨63, rfl, d2⟩)
  have q : Q (.bl (if neg then !memD l x else memD l x)) H := k _ I H .refl sr (by simp [Rp])
  cases neg
  · exact .inl ⟨_, _, dx, dl, D.shaped d1, sl, by rw [memD_any]; exact q⟩
  · exact .inl ⟨_, _, dx, dl, D.shaped d1, sl, by rw [memD_any]; exact q⟩
def inLO (neg : Bool) : Sl → D → WP D
  | .own l, d => WP.need (D.deep 64 d ∧ D.deeps 63 l) (pure (.bl (if neg then !memD l d else memD l d)))
  | _, _ => WP.bad
theorem oo_inL {S : Sx} (neg : Bool) : OpO S (fun x y => rInLT S.K neg y x) (inLO neg) := ⟨fun s d h => (by cases s <;> first | rfl | cases h), fun I H b s a d v Q E sr w rv k => by
  cases s with
  | own l =>
    obtain ⟨vs, h1, h2⟩ := w
    exact rin_list sr rv h1 h2 k.1.1 k.1.2 k.2
  | _ => exact k.elim⟩
section
variable {X : Cx} {κ : Cp} {W : WX} {E : XK} {a b c e f value : Expr} {x y : Str} {pos pn pos' cpos apos pf p1 p2 : Pos} {ta tb te tf tv tk : EW} {ts : AW} {tc : BW} {i j : Nat}
theorem dt_inO (hu : X.A.units + 66 < cLine) (ha : DE X κ W a ta) (hv : PE X (.Name x pn) (tVar i)) (hm : behindInMarks .In (.Name x pn) = false := by rfl) : DT X κ W (.Compare a [.In] [.Name x pn] pos) (bOwn i (inLO false) ta) := dt_cmpO (op_inLT hu) (oo_inL false) ha hv hm
theorem dt_notInO (hu : X.A.units + 66 < cLine) (ha : DE X κ W a ta) (hv : PE X (.Name x pn) (tVar i)) (hm : behindInMarks .NotIn (.Name x pn) = false := by rfl) : DT X κ W (.Compare a [.NotIn] [.Name x pn] pos) (bOwn i (inLO true) ta) := dt_cmpO (op_notInLT hu) (oo_inL true) ha hv hm
/-! ### fresh lists -/
theorem kl_fresh {S : Sx} {I H I1 H1 : Hp} {b1 : Nat} {Q : VK} {m : List D} {ys : List V} {p : Addr} (x1 : Stp S I H I1 H1) (s1 : SR S I1 H1 b1) (hp : H1 p = none) (r : Rps S I1 m ys) (k : KL S I H Q m b1) : Q (.ref p) (upd H1 p (.lst ys)) :=
  k p ys I1 (upd H1 p (.lst ys)) (x1.trans (.newOwn hp)) (s1.newOwn hp) (fun z => not_nt hp (x1.tt p z)) (s1.sub.free hp) upd_same r
/-- x + b, x a list of our own -/
def lCatO (i : Nat) (tb : EW) : AW := fun ρ => do
  let y ← tb ρ
  match (ρ[i]? : Option Sl), y with
  | some (.own l), .lst m => WP.need (l.length + m.length ≤ sizeLine) (pure (l ++ m))
  | _, _ => WP.bad
def isOwnL (ρ : Env') (i : Nat) : Prop := ∃ l, ρ[i]? = some (.own l)
theorem own_at {S : Sx} {I H : Hp} {ρ : Env'} {σ : St} {l : List D} (er : ER S κ I H ρ σ) (h : ρ[i]? = some (.own l)) : ∃ a, σ[i]? = some (some (.ref a)) ∧ ¬ Nt κ.h0 a ∧ I a = none ∧ a ≠ S.p.a ∧ ∃ vs, H a = some (.lst vs) ∧ Rps S I l vs := by
  have il : i < σ.length := by rw [← er.len]; exact (List.getElem?_eq_some_iff.mp h).1
  have hs : σ[i]? = some σ[i] := List.getElem?_eq_getElem il
  obtain ⟨a, ha, h1, h2, h3, w⟩ := er.at_ i _ _ h hs
  exact ⟨a, by rw [hs, ha], h1, h2, h3, w⟩
theorem dl_catO (hv : PE X (.Name x pn) (tVar i)) (hb : DE X κ W b tb) : DL X κ W (.BinOp (.Name x pn) .Add b pos) (fun ρ => WP.need (isOwnL ρ i) (lCatO i tb ρ)) :=
  PE.imp (pe_op op_cat hv hb) fun σ H Q ⟨I, ρ, b, sr, er, ⟨⟨l, hn⟩, h⟩⟩ => by
    obtain ⟨p, hp, _⟩ := own_at er hn
    refine ⟨.ref p, hp, tD_bind sr er h fun d b1 u I1 H1 x1 s1 er1 r1 h1 => ?_⟩
    rw [hn] at h1
    cases d <;> first | exact h1.elim | skip
    simp only [Rp] at r1
    obtain ⟨q, ws, rfl, g3, g4⟩ := r1
    obtain ⟨hz, h1⟩ := h1
    obtain ⟨p', hp', _, _, _, vs, g1, g2⟩ := own_at er1 hn
    rw [hp] at hp'; cases hp'
    exact ⟨p, q, vs, ws, rfl, rfl, g1, s1.sub _ _ g3, by rw [← g2.len, ← g4.len]; exact hz, fun r hr => kl_fresh x1 s1 hr (g2.append g4) h1⟩
/-- a * k, a fresh list -/
def lRep (ta tb : EW) : AW := fun ρ => do
  let x ← ta ρ
  let y ← tb ρ
  match x, y with
  | .lst l, .int k => WP.need (-1000 ≤ k ∧ k ≤ 1000 ∧ l.length ≤ 1000) (pure (List.replicate k.toNat l).flatten)
  | _, _ => WP.bad
/-! ### x = x if c else .. -/
def sSelfIf (i : Nat) (tc : BW) (ts : AW) : SW := fun ρ => WP.need (isOwnL ρ i) (do
  let c ← tc ρ
  if c then pure (.nx ρ) else do let l ← ts ρ; pure (.nx (ρ.set i (.own l))))
theorem ds_selfIf {pos' : Pos} (hN : X.N.Nodup) (hi : X.N[i]? = some x) (hx : Loc X.env.scope x) (hc : DT X κ (wOf E) c tc) (hv : PE X (.Name x pn) (tVar i)) (he : DL X κ (wOf E) e ts) (hs : swapsWith (.IfExp c (.Name x pn) e p1) (some (.Name x pos')) pos.line X.env = pure false := by rfl) (hf : X.fn x = true ∨ X.env.scope.names.lookup x = some .local := by first | exact .inl rfl | exact .inr rfl | assumption) :
    DS X κ E (.Assign [.Name x pos'] (.IfExp c (.Name x pn) e p1) pos) (sSelfIf i tc ts) :=
  PS.imp (ps_set hN hi hx (pe_ifExp hc hv he) hs hf) fun Z σ H ⟨I, ρ, b, w, ⟨⟨l, hn⟩, h⟩⟩ => by
    refine ds_ofT w h fun k b1 I1 H1 w1 x1 h1 => ?_
    cases k with
    | true =>
      refine iteT ?_
      obtain ⟨p, hp, _⟩ := own_at w1.er hn
      refine ⟨.ref p, hp, ?_⟩
      have : σ.set i (some (V.ref p)) = σ := by
        obtain ⟨hl, he⟩ := List.getElem?_eq_some_iff.mp hp
        rw [← he, List.set_getElem_self]
      show Z.nx (σ.set i _) H1
      rw [this]
      exact h1 σ I1 H1 w1 x1.ii
    | false =>
      refine iteF ?_
      refine setOwn_of (S := Sx.of X κ) ⟨I1, ρ, b1, w1, WP.mono _ h1 (fun _ _ z => z.later x1.ii) fun _ _ z => z⟩
end
end L2.NW
end
section
set_option Elab.async false
set_option autoImplicit false
set_option linter.all false
set_option maxRecDepth 100000
set_option maxHeartbeats 3200000
/-! NzD0: a built-in type that is called, by what its __new__ and its __init__ do in this world; set(l) by it. -/
namespace L2.NW
open PySem PySem.Spec PyProof.Rows
section
variable {P : Program} {w : World} {A : Around} {E : Value → Shared → Prop} {s : Shared}
/-- T(args): made by __new__, then settled by __init__ -/
theorem type_made {T newId initId : String} {args : List Value} {Q : Value → Shared → Prop} (ft : TypeCalled T newId initId) (ok : checkTypeCall T ⟨args, []⟩ = pure ())
    (make : codeAny (model P w) A.in1 (.call (.builtin newId) ⟨.type T :: args, []⟩) (wants (fun v t => t.TypeIs v T ∧ wpAny (model P w) A.in1 (callSpecial? v "__init__" args []) (fun r u => r = some .none ∧ Q v u) E t) E) s) :
    wpAny (model P w) A (call (.type T) args) Q E s := by
  refine wpAny_call (codeAny_of_tree (wpAny_pure ⟨Code.quiet_builtin _ (by decide +kernel), codeAny_builtin F.entry_type_call ?_⟩))
  rw [Around.under_plain (weight_type_call_type T args []) rfl]
  have f1 := ft.notType
  have f2 := ft.canCreate
  obtain ⟨c, tl, f3⟩ := ft.mro
  have f4 := ft.made
  have f5 := ft.sub
  unfold Builtin.«type.__call__»
  simp only [f1, f2, Bool.false_eq_true, if_false, ok, f3, f4, List.isEmpty_cons, pure_bind]
  refine wpAny_bind (wpAny_holding (wpAny_call (codeAny_mono make fun r t hr => ?_)))
  cases r with
  | error e => exact hr
  | ok fl =>
    cases fl with
    | next => exact hr.elim
    | brk => exact hr.elim
    | cont => exact hr.elim
    | ret v =>
      obtain ⟨ty, ini⟩ := hr
      refine wpAny_bind (wpAny_isInstance ty f5 ?_)
      simp only [Bool.not_true, Bool.false_eq_true, if_false]
      refine wpAny_bind (wpAny_holding (wpAny_mono ini (fun r u hu => ?_) fun _ _ z => z))
      obtain ⟨rfl, q⟩ := hu
      exact wpAny_pure q
/-- a set without members, as set.__new__ leaves it -/
abbrev bare (w : World) : Obj := { cls := .type "set", dict := none, data := .set #[] 0 (.fresh 0 0 (!w.params.followText "set-order")) }
/-- set.__init__(S, l): S has just the ints of the list l -/
theorem init_ints {S l : Addr} {us : Array Value} {ns : List Int} {R : Result → Shared → Prop} (no : A.handled = none) (isl : s.heap.IsList l us) (its : IntsAre us.toList ns) (few : ns.length + 1 < scanBound) (at_ : s.heap.get? S = some (bare w))
    (q : ∀ (g : Heap) (tk c : Nat), c ≤ ns.length → SetR w g S (fun j => decide (j ∈ ns)) c → (∀ b o, b ≠ S → s.heap.get? b = some o → g.get? b = some o) → R (.ok (.ret .none)) { s with heap := g, toks := tk }) :
    codeAny (model P w) A (.call (.builtin "set.__init__") ⟨[.ref S, .ref l], []⟩) R s := by
  have ty : s.TypeIs (.ref S) "set" := ⟨_, at_, rfl⟩
  refine codeAny_call_builtin F.called_set.init.plain F.entry_set_init (check_set_init_1 ty ?_)
  obtain ⟨⟨oc, od, oa, sl⟩, hol, e1, ep, e2⟩ := isl
  simp only at e1 e2
  subst e1 e2
  have isl : s.heap.IsList l us := ⟨_, hol, rfl, ep, rfl⟩
  have tl : s.TypeIs (.ref l) "list" := ⟨_, hol, rfl⟩
  have n1 := F.sub_list_set
  have n2 := F.sub_list_frozenset
  have n3 : (Value.type "list" == Value.type "dict") = false := by decide
  have walk : wpAny (model P w) A.in1 (pyIter (.ref l)) (fun i t => wpAny (model P w) A.in1 (do let _ ← runValue (.builtin "set.update.loop" ⟨[.ref S, i], []⟩); pure ()) (fun _ t => wpAny (model P w) A.in1 (ret Value.none)
      (fun fin t => match fin with | .done f => R (.ok f) t | .again c => c.quiet = true ∧ codeAny (model P w) A c R t) (fun e t => R (.error e) t) t) (fun e t => R (.error e) t) t) (fun e t => R (.error e) t) s := by
    refine wpAny_pyIter_list isl ?_
    have sz : us.size = ns.length := by rw [← Array.length_toList]; exact IntsAre.length its
    have nl : l ≠ s.heap.objs.size := Nat.ne_of_lt (Heap.lt_size hol)
    have nS : S ≠ s.heap.objs.size := Nat.ne_of_lt (Heap.lt_size at_)
    have nSl : S ≠ l := fun z => by
      rw [z, hol] at at_
      exact absurd (congrArg Obj.cls (Option.some.inj at_)) (by show ¬ (Value.type "list" = Value.type "set"); decide)
    have W := (Walks.list (prog := P) (w := w) (show A.in1.in1.handled = none by simp [no]) s.heap.objs.size l nl us).toS
    refine wpAny_bind (wpAny_runValue (set_update_ints W S (by simp [nS, nSl]) ns sz few (fun i v hv => ?_) (us.size - 0) 0 _ rfl (Nat.zero_le _) ⟨⟨_, Heap.get?_push_size _ rfl, rfl, rfl⟩, isl.push _⟩ ⟨0, Nat.le_refl 0, setR_new_at (Heap.get?_push_of_some _ at_)⟩ fun t c mv hc hS => ?_))
    · have hi : i < ns.length := by rw [← sz]; exact (Array.getElem?_eq_some_iff.mp hv).1
      obtain ⟨tk, e⟩ := PyProof.Rows.IntsAre.int_at its i v (by rw [Array.getElem?_toList]; exact hv)
      exact ⟨ns[i], tk, List.getElem?_eq_getElem hi, by rw [e]; simp [List.getD_eq_getElem?_getD, List.getElem?_eq_getElem hi]⟩
    · obtain ⟨g, gn, dr, tk, os⟩ := t
      have z1 := mv.gens
      have z2 := mv.drawn
      have z3 := mv.os
      simp only at z1 z2 z3
      subst z1 z2 z3
      refine wpAny_pure (wpAny_pure (q g tk c (by omega) hS fun b o hb e => mv.heap b o ?_ (Heap.get?_push_of_some _ e)))
      simp only [List.mem_cons, List.not_mem_nil, or_false, not_or]
      exact ⟨hb, Nat.ne_of_lt (Heap.lt_size e)⟩
  unfold Builtin.«set.__init__» noKeywords Builtin.Frozenset.updateFrom
  generalize hp : pyIter = it at walk ⊢
  wp_walk
  all_goals first | exact walk | skip
/-- set(l), l a list of ints -/
theorem call_setL {l : Addr} {us : Array Value} (ns : List Int) {Q : Value → Shared → Prop} (no : A.handled = none) (isl : s.heap.IsList l us) (its : IntsAre us.toList ns) (few : ns.length + 1 < scanBound)
    (q : ∀ (g : Heap) (tk c : Nat), SetR w g s.heap.objs.size (fun j => decide (j ∈ ns)) c → c ≤ ns.length → (∀ b o, s.heap.get? b = some o → g.get? b = some o) → Q (.ref s.heap.objs.size) { s with heap := g, toks := tk }) : wpAny (model P w) A (call (.type "set") [.ref l]) Q E s := by
  refine type_made F.called_set (F.typeCall_set_1 (.ref l)) (code_set_led1 (.ref l) ⟨⟨_, Heap.get?_push_size _ rfl, rfl⟩, ?_⟩)
  refine wpAny_callSpecial?_slot ⟨_, Heap.get?_push_size _ rfl, rfl⟩ F.called_set.init (wpAny_call (init_ints (ns := ns) (by simp [no]) (isl.push _) its few (Heap.get?_push_size _ rfl) fun g tk c hc hS k => ⟨rfl, q g tk c hS hc fun b o e => k b o (Nat.ne_of_lt (Heap.lt_size e)) (Heap.get?_push_of_some _ e)⟩))
end
end L2.NW
end
section
set_option Elab.async false
set_option autoImplicit false
set_option linter.all false
set_option maxRecDepth 100000
set_option maxHeartbeats 3200000
/-! NzD: sorted(set(l)), len(set(l)). -/
namespace L2.NW
open PySem PySem.Spec PyProof.Rows
/-! ### sorted(set(e)), e a list of ints -/
/-- the same ints, each once, rising -/
def SrtSet (ns m : List Int) : Prop := m.Pairwise (· < ·) ∧ ∀ k, k ∈ m ↔ k ∈ ns
section
variable {X : Cx}
def tSrtSet (K : PySem.W.Frag) (ta : TE) : TE := fun σ H Q => ta σ H fun x H1 => ∃ (l : Addr) (ns : List Int), x = V.ref l ∧ SqL K H1 l (ns.map V.int) ∧ ns.length < 64 ∧ ∀ m p, SrtSet ns m → H1 p = none → Q (.ref p) (upd H1 p (.lst (m.map V.int)))
theorem pe_srtSet {a : Expr} {ta : TE} {p p2 q pos : Pos} (hc : X.calm = true) (hg : Gl X "sorted") (hm : X.mg "sorted" = none) (hg2 : Gl X "set") (hm2 : X.mg "set" = none) (ha : PE X a ta)
    (na : starEach [a] X.env = (false, eval a X.env) :: starEach [] X.env := by rfl) : PE X (.Call (.Name "sorted" p) [.Call (.Name "set" p2) [a] [] q] [] pos) (tSrtSet X.K ta) := by
  refine ⟨fun pins s σ H Q I h => ?_⟩
  refine Call_ (ld_blt I hg hm (show bootBuiltins "sorted" = some (.builtin "sorted") by decide +kernel) ?_)
  refine PyProof.Rows.callWith_builtin1 (PyProof.Rows.args_cons ?_ rfl) rfl rfl
  refine Call_ (ld_blt I hg2 hm2 PyProof.Rows.boot_set ?_)
  refine PyProof.Rows.callWith_type1 (PyProof.Rows.args_cons (thn (ha.run pins s σ H _ I h) fun v s1 ⟨x, H1, I1, r1, q1⟩ => PyProof.Rows.args_nil ?_) na) na rfl
  obtain ⟨l, ns, rfl, hq, h64, q1⟩ := q1
  cases r1
  obtain ⟨its, r, pl, hz⟩ := I1.list hq
  have hd := I1.ok.hd hc
  refine call_setL ns hd pl.isList (by simpa using r.ints) (by unfold scanBound; omega) fun g tk c R hcn hk => ?_
  refine PyProof.Rows.args_nil ?_
  have I2 : Inv X pins σ H1 { s1 with heap := g, toks := tk } := I1.kept hk
  obtain ⟨o, es, ep, t, ho, hex, hdt, gd, nd, hmm, hsb, hf, hn, hris, hled⟩ := R
  refine sorted_set (s := { s1 with heap := g, toks := tk }) (S := fun j => decide (j ∈ ns)) (n := c) ⟨o, es, ep, t, ho, hex, hdt, gd, nd, hmm, hsb, hf, hn, hris, hled⟩ hd (by omega) fun s' p out c2 m kk hgn hos hp hg' hi hpw hmem hlen => ?_
  have hn : H1 p = none := I2.hok.fresh hp
  have hl : (m.map V.int).length ≤ sizeLine := by rw [List.length_map, hlen, sizeLine_eq]; omega
  have hv : Vals (m.map V.int) out.toList := vals_of_ints hi
  have J : Inv X pins σ (upd H1 p (.lst (m.map V.int))) { ({ s1 with heap := g, toks := tk } : Shared) with heap := s'.heap, gens := s'.gens, drawn := s'.drawn, toks := s'.toks } :=
    Inv.call (ch := []) I2 (Un.laid kk hp hn) (I2.hok.laid kk hp ⟨hl, out.toList, c2, hv, hg'⟩) (by rw [hgn]; exact I2.bare) (fun _ z => nomatch z)
  have e : s' = { ({ s1 with heap := g, toks := tk } : Shared) with heap := s'.heap, gens := s'.gens, drawn := s'.drawn, toks := s'.toks } := by
    cases s'
    cases s1
    cases hos
    rfl
  rw [e]
  exact ⟨.ref p, _, J, rfl, q1 m p ⟨hpw, fun k => by rw [hmem k, decide_eq_true_eq]⟩ hn⟩
end
/-- data that are ints -/
def intsD : List D → Option (List Int)
  | [] => some []
  | .int i :: l => (intsD l).map (i :: ·)
  | _ :: _ => none
theorem intsD_eq : ∀ {l : List D} {ns : List Int}, intsD l = some ns → l = ns.map D.int
  | [], ns, h => by simp only [intsD, Option.some.injEq] at h; subst h; rfl
  | d :: l, ns, h => by
    cases d <;> simp only [intsD, Option.map_eq_some_iff, reduceCtorEq] at h
    obtain ⟨m, h1, rfl⟩ := h
    rw [intsD_eq h1]; rfl
theorem intsD_map (ns : List Int) : intsD (ns.map D.int) = some ns := by
  induction ns with
  | nil => rfl
  | cons i ns ih => simp only [List.map_cons, intsD, ih, Option.map_some]
theorem rps_ints {S : Sx} {I : Hp} : ∀ {ns : List Int} {vs : List V}, Rps S I (ns.map D.int) vs → vs = ns.map V.int
  | [], vs, h => by simpa [Rps] using h
  | n :: ns, vs, h => by
    simp only [List.map_cons, Rps] at h
    obtain ⟨v, ws, rfl, h1, h2⟩ := h
    rw [rps_ints h2, h1]; rfl
theorem rps_ofInts {S : Sx} {I : Hp} : ∀ (ns : List Int), Rps S I (ns.map D.int) (ns.map V.int)
  | [] => .nil
  | n :: ns => .cons (by simp [Rp]) (rps_ofInts ns)
def eSrtSet (te : EW) : AW := fun ρ => do
  let d ← te ρ
  match d with
  | .lst l => match intsD l with
    | some ns => WP.need (ns.length < 64) (do let m ← WP.any (SrtSet ns); pure (m.map D.int))
    | none => WP.bad
  | _ => WP.bad
def eLenSet (te : EW) : EW := fun ρ => do
  let d ← te ρ
  match d with
  | .lst l => match intsD l with
    | some ns => WP.need (ns.length < 64 ∧ ns.Nodup) (pure (.int ((ns.length : Nat) : Int)))
    | none => WP.bad
  | _ => WP.bad
section
variable {X : Cx} {κ : Cp} {W : WX} {a : Expr} {p p2 q pos : Pos} {te : EW}
theorem dl_srtSet (hc : X.calm = true) (hg : Gl X "sorted") (hm : X.mg "sorted" = none) (hg2 : Gl X "set") (hm2 : X.mg "set" = none) (ha : DE X κ W a te)
    (na : starEach [a] X.env = (false, eval a X.env) :: starEach [] X.env := by rfl) : DL X κ W (.Call (.Name "sorted" p) [.Call (.Name "set" p2) [a] [] q] [] pos) (eSrtSet te) :=
  PE.imp (pe_srtSet hc hg hm hg2 hm2 ha na) fun σ H Q ⟨I, ρ, b, sr, er, h⟩ => tD_bind sr er h fun d b1 v I1 H1 x1 s1 er1 r1 h1 => by
    cases d <;> first | exact h1.elim | skip
    rename_i l
    cases e : intsD l with
    | none => simp only [e] at h1; exact h1.elim
    | some ns =>
      simp only [e] at h1
      rw [intsD_eq e] at r1
      simp only [Rp] at r1
      obtain ⟨a, vs, rfl, g1, g2⟩ := r1
      rw [rps_ints g2] at g1
      obtain ⟨hz, h1⟩ := h1
      exact ⟨a, ns, rfl, SqL.of (s1.sub _ _ g1), hz, fun m p hm hp => kl_fresh x1 s1 hp (rps_ofInts m) (h1 m hm)⟩
theorem de_lenSet (hc : X.calm = true) (hg : Gl X "len") (hm : X.mg "len" = none) (hg2 : Gl X "set") (hm2 : X.mg "set" = none) (ha : DE X κ W a te)
    (na : starEach [a] X.env = (false, eval a X.env) :: starEach [] X.env := by rfl) : DE X κ W (.Call (.Name "len" p) [.Call (.Name "set" p2) [a] [] q] [] pos) (eLenSet te) :=
  PE.imp (pe_lenSetI hc hg hm hg2 hm2 ha na) fun σ H Q ⟨I, ρ, b, sr, er, h⟩ => tD_bind sr er h fun d b1 v I1 H1 x1 s1 er1 r1 h1 => by
    cases d <;> first | exact h1.elim | skip
    rename_i l
    cases e : intsD l with
    | none => simp only [e] at h1; exact h1.elim
    | some ns =>
      simp only [e] at h1
      rw [intsD_eq e] at r1
      simp only [Rp] at r1
      obtain ⟨a, vs, rfl, g1, g2⟩ := r1
      rw [rps_ints g2] at g1
      obtain ⟨⟨hz, hnd⟩, h1⟩ := h1
      exact ⟨a, ns, rfl, SqL.of (s1.sub _ _ g1), hz, hnd, h1 _ I1 H1 x1 s1 (by simp [Rp])⟩
end
end L2.NW
end
section
set_option Elab.async false
set_option autoImplicit false
set_option linter.all false
set_option maxRecDepth 100000
set_option maxHeartbeats 2000000
/-! NzE: try: e / return e; except c as n: .. -/
namespace L2.NW
open PySem PySem.Spec PyProof.Rows
/-! ### the same world, with more that never changes -/
/-- κ with what never changed since -/
def Cp.at_ (κ : Cp) (J : Hp) : Cp := { κ with p := { κ.p with i0 := J } }
section
variable {S S' : Sx} {κ κ' : Cp} {I H : Hp} {ρ : Env'} {σ : St}
structure SxEq (S S' : Sx) : Prop where
  h1 : S'.K = S.K
  h2 : S'.mg = S.mg
  h3 : S'.p.a = S.p.a
  h4 : S'.w = S.w
  h5 : S'.p.lam = S.p.lam
  h6 : S'.p.T = S.p.T
theorem SxEq.symm (q : SxEq S S') : SxEq S' S := ⟨q.h1.symm, q.h2.symm, q.h3.symm, q.h4.symm, q.h5.symm, q.h6.symm⟩
theorem SxEq.rp (q : SxEq S S') {d : D} {v : V} (h : Rp S I d v) : Rp S' I d v := Rp.cg q.h1 q.h2 q.h3 q.h4 q.h5 h
theorem SxEq.rps (q : SxEq S S') {d : List D} {v : List V} (h : Rps S I d v) : Rps S' I d v := Rps.cg q.h1 q.h2 q.h3 q.h4 q.h5 h
theorem SxEq.xr (q : SxEq S S') {x : Ex} {cls : Value} {d : Option Addr} (h : XR S I x cls d) : XR S' I x cls d := by
  obtain ⟨C, dd, vs, g1, g2, g3, g4, g5, g6⟩ := h
  exact ⟨C, dd, vs, by rw [q.h2]; exact g1, g2, g3, g4, g5, q.rps g6⟩
theorem SxEq.own (q : SxEq S S') {a : Addr} {s : Sl} (h : OwnAt S I H a s) : OwnAt S' I H a s := by
  cases s with
  | no => exact h.elim
  | val d => exact h.elim
  | own l => obtain ⟨vs, h1, h2⟩ := h; exact ⟨vs, h1, q.rps h2⟩
  | obj c ns l => obtain ⟨C, dx, vs, g1, g2, g3, g4, g5, g6⟩ := h; exact ⟨C, dx, vs, by rw [q.h2]; exact g1, g2, g3, g4, g5, q.rps g6⟩
  | od l => obtain ⟨xs, h1, h2⟩ := h; exact ⟨xs, by rw [q.h4]; exact h1, Paired.mapP h2 fun _ _ z => ⟨z.1, z.2.1, q.rp z.2.2.1, q.rp z.2.2.2⟩⟩
  | ok l => obtain ⟨xs, h1, h2⟩ := h; exact ⟨xs, by rw [q.h4]; exact h1, Paired.mapP h2 fun _ _ z => ⟨z.1, q.rp z.2.1, q.rp z.2.2⟩⟩
  | oa c l => obtain ⟨z, vs, h1, h2⟩ := h; exact ⟨z, vs, h1, q.rps h2⟩
theorem SxEq.sl (q : SxEq S S') (k1 : κ'.h0 = κ.h0) (k2 : κ'.self = κ.self) (k3 : κ'.sdx = κ.sdx) {s : Sl} {o : Option V} (h : SlR S κ I H s o) : SlR S' κ' I H s o := by
  cases s with
  | no => trivial
  | val d => obtain ⟨v, e, r⟩ := h; exact ⟨v, e, q.rp r⟩
  | own l => obtain ⟨a, e, f, n, p, w⟩ := h; exact ⟨a, e, by rw [k1]; exact f, n, by rw [q.h3]; exact p, q.own w⟩
  | obj c ns l => obtain ⟨a, e, f, n, p, w, s1, s2⟩ := h; exact ⟨a, e, by rw [k1]; exact f, n, by rw [q.h3]; exact p, q.own w, by rw [k2]; exact s1, by rw [k3]; exact s2⟩
  | od l => obtain ⟨a, e, f, n, p, w⟩ := h; exact ⟨a, e, by rw [k1]; exact f, n, by rw [q.h3]; exact p, q.own w⟩
  | ok l => obtain ⟨a, e, f, n, p, w⟩ := h; exact ⟨a, e, by rw [k1]; exact f, n, by rw [q.h3]; exact p, q.own w⟩
  | oa c l => obtain ⟨a, e, f, n, p, w⟩ := h; exact ⟨a, e, by rw [k1]; exact f, n, by rw [q.h3]; exact p, q.own w⟩
theorem SxEq.er (q : SxEq S S') (k1 : κ'.h0 = κ.h0) (k2 : κ'.self = κ.self) (k3 : κ'.sdx = κ.sdx) (h : ER S κ I H ρ σ) : ER S' κ' I H ρ σ := ⟨h.len, fun i s o e1 e2 => q.sl k1 k2 k3 (h.at_ i s o e1 e2), h.apart⟩
end
section
variable {X : Cx} {κ : Cp} {J : Hp}
theorem sx_at : SxEq (Sx.of X κ) (Sx.of X (κ.at_ J)) := ⟨rfl, rfl, rfl, rfl, rfl, rfl⟩
theorem wok_in {I H : Hp} {b : Nat} {ρ : Env'} {σ : St} (w : WOk (Sx.of X κ) κ I H b ρ σ) : WOk (Sx.of X (κ.at_ I)) (κ.at_ I) I H b ρ σ :=
  ⟨sr_to (S := Sx.of X κ) rfl rfl (fun _ _ z => z) w.sr, sx_at.er (κ := κ) (κ' := κ.at_ I) rfl rfl rfl w.er, stp_to (S := Sx.of X κ) rfl w.st⟩
theorem wok_out {I0 I H : Hp} {b : Nat} {ρ : Env'} {σ : St} (h0 : Same κ.p.i0 I0) (w : WOk (Sx.of X (κ.at_ I0)) (κ.at_ I0) I H b ρ σ) : WOk (Sx.of X κ) κ I H b ρ σ :=
  ⟨sr_to (S := Sx.of X (κ.at_ I0)) rfl rfl (fun a o z => w.sr.ci a o (h0 a o z)) w.sr, sx_at.symm.er (κ := κ.at_ I0) (κ' := κ) rfl rfl rfl w.er, stp_to (S := Sx.of X (κ.at_ I0)) rfl w.st⟩
end
/-! ### clauses -/
namespace WP
/-- no error comes -/
def norse {α : Type} (m : WP α) : WP α := ⟨fun b Q _ => m.run b Q (fun _ _ => False), fun h hq _ => m.mono h hq fun _ _ z => z⟩
@[simp] theorem run_norse {α : Type} (m : WP α) (b Q E) : (norse m).run b Q E = m.run b Q (fun _ _ => False) := rfl
@[simp] theorem norse_pure {α : Type} (a : α) : norse (Pure.pure a : WP α) = Pure.pure a := rfl
end WP
def goneF (i : Nat) : Fl → Fl
  | .nx ρ => .nx (ρ.set i .no)
  | .rt d => .rt d
  | .bk ρ => .bk (ρ.set i .no)
  | .ct ρ => .ct (ρ.set i .no)
abbrev HW := V → Ex → SW
def hsel (F : Str → Str → Option Bool) (i : Nat) : List (Str × HW) → Ex → SW
  | [], x, _ => WP.raise x
  | (c, h) :: r, x, ρ => match F x.cls c with
    | some true => do
      let er ← WP.any (fun _ : V => True)
      let f ← WP.norse (h er x (ρ.set i (.val (.raw er))))
      pure (goneF i f)
    | some false => hsel F i r x ρ
    | none => WP.bad
theorem ER.setNo' {S : Sx} {κ : Cp} {I H : Hp} {ρ : Env'} {σ : St} {i : Nat} {o : Option V} (e : ER S κ I H ρ σ) : ER S κ I H (ρ.set i .no) (σ.set i o) := by
  have ge : ∀ {j : Nat} {t : Sl}, (ρ.set i .no)[j]? = some t → t.isOwn = true → i ≠ j ∧ ρ[j]? = some t := fun {j t} h ho => by
    by_cases hj : i = j
    · subst hj
      have il : i < ρ.length := by simpa using (List.getElem?_eq_some_iff.mp h).1
      rw [List.getElem?_set_self il] at h; cases h; cases ho
    · rw [List.getElem?_set_ne hj] at h; exact ⟨hj, h⟩
  refine ⟨by simp [e.len], fun j t o h1 h2 => ?_, fun j k t u a h1 h2 o1 o2 h3 h4 => ?_⟩
  · by_cases hj : i = j
    · subst hj
      have il : i < ρ.length := by simpa using (List.getElem?_eq_some_iff.mp h1).1
      rw [List.getElem?_set_self il] at h1; cases h1; trivial
    · rw [List.getElem?_set_ne hj] at h1 h2; exact e.at_ j t o h1 h2
  · obtain ⟨n1, g1⟩ := ge h1 o1
    obtain ⟨n2, g2⟩ := ge h2 o2
    rw [List.getElem?_set_ne n1] at h3
    rw [List.getElem?_set_ne n2] at h4
    exact e.apart j k t u a g1 g2 o1 o2 h3 h4
section
variable {X : Cx} {κ : Cp} {F : Str → Str → Option Bool} {n : Str} {i : Nat}
/-- the clauses are worth their mirrors -/
inductive HdOk (X : Cx) (κ : Cp) (F : Str → Str → Option Bool) (n : Str) : List ExceptHandler → List (Str × HW) → Prop
  | nil : HdOk X κ F n [] []
  | cons {c : Str} {C : Addr} {h : HW} {st : Stmt} {su : List Stmt} {p1 p2 : Pos} {hs : List ExceptHandler} {l : List (Str × HW)} (hC : X.mg c = some (.ref C)) (hg : Gl X c) (hd : (c == ("__debug__" : Str)) = false)
      (body : ∀ (J : Hp) (er : Addr) (oe : Obj) (d : Option Addr) (pn : List (Addr × Obj)) (x : Ex), F x.cls c = some true → Zc (.ref C) d oe → (∃ fv, oe.data = .fields fv) → XR (Sx.of X (κ.at_ J)) J x (.ref C) d → DSs (X.suite er ((er, oe) :: pn)) (κ.at_ J) (fun _ _ _ => False) (st :: su) (h (.ref er) x))
      (r : HdOk X κ F n hs l) : HdOk X κ F n (.ExceptHandler (some (.Name c p1)) (some n) (st :: su) p2 :: hs) ((c, h) :: l)
/-- what a suite wishes -/
def suT (X : Cx) (κ : Cp) (F : Str → Str → Option Bool) (c : Str) (h : HW) : Su := fun er cls d D τ G => ∃ (J : Hp) (x : Ex) (C : Addr), X.mg c = some (.ref C) ∧ cls = .ref C ∧ F x.cls c = some true ∧ XR (Sx.of X (κ.at_ J)) J x (.ref C) d ∧ tDS (Sx.of X (κ.at_ J)) (κ.at_ J) (fun _ _ _ => False) (h (.ref er) x) D τ G
theorem HdOk.cl {hs : List ExceptHandler} {l : List (Str × HW)} (k : HdOk X κ F n hs l) : ClOk X n hs (l.map fun q => ((X.mg q.1).getD .none, suT X κ F q.1 q.2)) := by
  induction k with
  | nil => exact .nil
  | @cons c C h st su p1 p2 hs l hC hg hd body r ih =>
    rw [List.map_cons]
    have e : (X.mg c).getD .none = .ref C := by rw [hC]; rfl
    simp only [e]
    refine .cons ⟨hg, hd, .inl hC⟩ (fun er oe cls d pn hz hf => ⟨fun pins s σ H D I q => ?_⟩) ih
    obtain ⟨J, x, C', h1, rfl, hF, xr, q⟩ := q
    rw [hC] at h1; cases h1
    exact (body J er oe d pn x hF hz hf xr).run pins s σ H D I q
theorem kf_gone {D : Ends} {I0 I : Hp} {f : Fl} {b : Nat} (h0 : Same κ.p.i0 I0) (h1 : Same I0 I) (k : KF (Sx.of X κ) κ I0 D (goneF i f) b) : KF (Sx.of X (κ.at_ I0)) (κ.at_ I0) I (gone i D) f b := by
  have go : ∀ {ρ : Env'} {σ : St} {I' H' : Hp}, WOk (Sx.of X (κ.at_ I0)) (κ.at_ I0) I' H' b ρ σ → WOk (Sx.of X κ) κ I' H' b (ρ.set i .no) (σ.set i none) := fun w =>
    let w' := wok_out h0 w
    ⟨w'.sr, w'.er.setNo', w'.st⟩
  cases f with
  | nx ρ => exact fun σ I' H' w s => k _ I' H' (go w) (h1.trans s)
  | rt d => exact fun v I' H' sr st r => k v I' H' (sr_to (S := Sx.of X (κ.at_ I0)) rfl rfl (fun a o z => sr.ci a o (h0 a o z)) sr) (stp_to (S := Sx.of X (κ.at_ I0)) rfl st) (sx_at.symm.rp r)
  | bk ρ => exact fun σ I' H' w s => k _ I' H' (go w) (h1.trans s)
  | ct ρ => exact fun σ I' H' w s => k _ I' H' (go w) (h1.trans s)
/-- the clauses, in turn -/
theorem hsel_run (fo : FOk X.K X.mg F) {E : XK} {D : Ends} {cls : Value} {d : Option Addr} {τ : St} {G I i0 : Hp} {b : Nat} {x : Ex} {ρ : Env'} (w : WOk (Sx.of X κ) κ I G b ρ τ) (hi0 : Same i0 I) (xr : XR (Sx.of X κ) I x cls d) :
    ∀ {l : List (Str × HW)}, (∀ q ∈ l, ∃ C, X.mg q.1 = some (.ref C)) → (hsel F i l x ρ).run b (KF (Sx.of X κ) κ i0 D) (KXs (Sx.of X κ) κ E) → wMA X.K i (wOf E) D (l.map fun q => ((X.mg q.1).getD .none, suT X κ F q.1 q.2)) cls d τ G
  | [], _, h => h cls d I G w.sr w.st xr
  | (c, h0) :: l, hk, h => by
    obtain ⟨C, hC⟩ := hk _ (List.mem_cons_self ..)
    obtain ⟨C', dd, vs, g1, rfl, rfl, g4, g5, g6⟩ := id xr
    rw [List.map_cons]
    have hC' : X.mg c = some (.ref C) := hC
    have e : (X.mg c).getD .none = .ref C := by rw [hC']; rfl
    show ∃ b, PySem.W.exmOne X.K (.ref C') ((X.mg c).getD .none) = some b ∧ _
    rw [e]
    cases ef : F x.cls c with
    | none => simp only [hsel, ef] at h; exact h.elim
    | some k =>
      obtain ⟨q1, q2⟩ := fo _ _ _ _ _ ef g1 hC'
      refine ⟨k, q1, fun hk1 er her => ?_, fun hk0 => ?_⟩
      · subst hk1
        have q3 := q2 rfl
        subst q3
        simp only [hsel, ef] at h
        have h1 := h (.ref er) trivial
        refine ⟨I, x, _, hC', rfl, ef, sx_at.xr xr, ?_⟩
        have w1 := wok_in w
        refine ⟨I, ρ.set i (.val (.raw (.ref er))), b, ⟨w1.sr, w1.er.setVal (v := .ref er) (by simp only [Rp]), w1.st⟩, ?_⟩
        have h2 : (h0 (.ref er) x (ρ.set i (.val (.raw (.ref er))))).run b (fun f b' => KF (Sx.of X κ) κ i0 D (goneF i f) b') (fun _ _ => False) := h1
        exact (h0 _ x _).mono h2 (fun f b' z => kf_gone (I0 := I) (I := I) (fun a o q => w.sr.ci a o q) (fun _ _ z => z) (z.later hi0)) fun _ _ z => z.elim
      · subst hk0
        simp only [hsel, ef] at h
        exact hsel_run fo w hi0 xr (fun q hq => hk q (List.mem_cons_of_mem _ hq)) h
end
/-! ### try -/
theorem HdOk.names {X : Cx} {κ : Cp} {F : Str → Str → Option Bool} {n : Str} {hs : List ExceptHandler} {l : List (Str × HW)} (k : HdOk X κ F n hs l) : ∀ q ∈ l, ∃ C, X.mg q.1 = some (.ref C) := by
  induction k with
  | nil => exact fun q hq => nomatch hq
  | cons hC hg hd body r ih =>
    intro q hq
    rcases List.mem_cons.mp hq with rfl | hq
    · exact ⟨_, hC⟩
    · exact ih q hq
section
variable {X : Cx} {κ : Cp} {E : XK} {F : Str → Str → Option Bool} {n : Str} {i : Nat} {e : Expr} {pe pos : Pos} {c0 : ExceptHandler} {hds : List ExceptHandler} {l : List (Str × HW)} {t : EW}
def sTryE (F : Str → Str → Option Bool) (i : Nat) (l : List (Str × HW)) (t : EW) : SW := fun ρ => WP.tryc (do let _ ← t ρ; pure (.nx ρ)) fun x => hsel F i l x ρ
theorem ds_tryE (fo : FOk X.K X.mg F) (hst : X.stack = X.env :: X.outer) (hfl : X.env.frame = some X.env.locals) (hN : X.N.Nodup) (hin : X.N[i]? = some n) (hln : X.env.kindOf n = some .local) (tk : Takes X (wOf E))
    (hb : ∀ (W : WX) (pn : List (Addr × Obj)) (xe : Value → Shared → Prop), Takes (X.tr pn xe) W → DE (X.tr pn xe) κ W e t) (hh : HdOk X κ F n (c0 :: hds) l)
    (hs : swapsWith e none pe.line X.env = pure false := by rfl) : DS X κ E (.Try [.Expr e pe] (c0 :: hds) [] [] pos) (sTryE F i l t) :=
  PS.imp (ps_tryA (tb := fun W => tDrop (tD (Sx.of X κ) κ W t)) (Wo := wOf E) hst hfl hN hin hln tk (fun W pn xe tkW _ => pss_one (ps_expr (hb W pn xe tkW) hs)) hh.cl) fun D τ G ⟨I, ρ, b, w, h⟩ => by
    refine ⟨I, ρ, b, w.sr, w.er, (t ρ).mono h (fun d b' k v I' H' x s r => ?_) fun x b' k cls d I' H' y s r => ?_⟩
    · exact k τ I' H' (w.stp x s) x.ii
    · exact hsel_run fo (w.stp y s) y.ii r hh.names k
/-- n.f within a clause -/
def eXf (i : Nat) (er : V) (x : Ex) (cs : List Str) (f : Str) : EW := fun ρ => WP.need (ρ[i]? = some (.val (.raw er)) ∧ x.cls ∈ cs) (match (x.ns.zip x.vs).lookup f with
  | some d => pure d
  | none => WP.bad)
theorem de_xf {J : Hp} {er C : Addr} {oe : Obj} {d : Option Addr} {pn : List (Addr × Obj)} {x : Ex} {W : WX} {f : Str} {cs : List Str} {p1 p2 : Pos} (Fd : XFld X.K X.mg cs f) (hz : Zc (.ref C) d oe) (hf : ∃ fv, oe.data = .fields fv) (xr : XR (Sx.of X (κ.at_ J)) J x (.ref C) d)
    (hv : PE (X.suite er ((er, oe) :: pn)) (.Name n p1) (tVar i)) (hb : attributeBase (.Name n p1) f X.env (eval (.Name n p1) X.env) = eval (.Name n p1) X.env := by rfl) :
    DE (X.suite er ((er, oe) :: pn)) (κ.at_ J) W (.Attribute (.Name n p1) f p2) (eXf i (.ref er) x cs f) := by
  obtain ⟨C', dd, vs, g1, g2, rfl, g4, g5, g6⟩ := xr
  cases g2
  refine ⟨fun pins s σ H Q I0 hq => ?_⟩
  obtain ⟨I, ρ, b, sr, er', ⟨⟨hr, hc⟩, h⟩⟩ := hq
  obtain ⟨T, hno⟩ := Fd _ hc _ g1
  refine (pe_xf (X := X) (pos := p2) (d := some dd) T hno hz hf hv hb).run pins s σ H Q I0 ?_
  have il : i < σ.length := by rw [← er'.len]; exact (List.getElem?_eq_some_iff.mp hr).1
  have hs : σ[i]? = some σ[i] := List.getElem?_eq_getElem il
  obtain ⟨v, e1, e2⟩ := er'.at_ i _ _ hr hs
  simp only [Rp] at e2
  subst e2
  rw [e1] at hs
  cases el : (x.ns.zip x.vs).lookup f with
  | none => rw [el] at h; exact h.elim
  | some y =>
    rw [el] at h
    obtain ⟨u, hu, ru⟩ := g6.lookup el
    have ji : Same J I := sr.ci
    exact ⟨.ref er, hs, rfl, rfl, dd, _, u, rfl, sr.sub _ _ (ji _ _ g4), hu, h u I H .refl sr (ru.same ji)⟩
end
end L2.NW
end
section
set_option Elab.async false
set_option autoImplicit false
set_option linter.all false
set_option maxRecDepth 100000
set_option maxHeartbeats 2000000
/-! NzF: x, y, .. = e, f, .., all fresh; len of a dict. -/
namespace L2.NW
open PySem PySem.Spec PyProof.Rows
/-- fresh things, each behind the one before -/
inductive SlFs (S : Sx) (I' H' : Hp) : Hp → List Sl → List V → Prop
  | nil {H : Hp} : SlFs S I' H' H [] []
  | cons {H H1 : Hp} {s : Sl} {v : V} {l : List Sl} {vs : List V} (h : SlF S H I' H' s v) (m : ∀ a, Nt H a → Nt H1 a) (n : s.isOwn = true → ∀ a, v = .ref a → Nt H1 a) (t : SlFs S I' H' H1 l vs) : SlFs S I' H' H (s :: l) (v :: vs)
def setAll (ρ : Env') : List Nat → List Sl → Env'
  | i :: is, s :: l => setAll (ρ.set i s) is l
  | _, _ => ρ
def setAllV (σ : St) : List Nat → List V → St
  | i :: is, v :: vs => setAllV (σ.set i (some v)) is vs
  | _, _ => σ
theorem SlFs.len {S : Sx} {I' H' H : Hp} {l : List Sl} {vs : List V} (h : SlFs S I' H' H l vs) : l.length = vs.length := by
  induction h with
  | nil => rfl
  | cons _ _ _ _ ih => simp [ih]
theorem SlFs.later {S : Sx} {I1 H1 I2 H2 H : Hp} {l : List Sl} {vs : List V} (x : Stp S I1 H1 I2 H2) (hb : ∃ b, SR S I1 H1 b) (hp : ∀ a, ¬ Nt H a → a ≠ S.p.a) (h : SlFs S I1 H1 H l vs) : SlFs S I2 H2 H l vs := by
  induction h with
  | nil => exact .nil
  | cons h m n t ih => exact .cons (slf_later x hb hp h) m n (ih fun a z => hp a fun q => z (m a q))
theorem er_setAll {S : Sx} {κ : Cp} {I' H' : Hp} {H : Hp} {l : List Sl} {vs : List V} (h : SlFs S I' H' H l vs) : ∀ {is : List Nat} {ρ : Env'} {σ : St}, ER S κ I' H' ρ σ → (∀ a, ¬ Nt H a → ¬ Nt κ.h0 a) → (∀ a, ¬ Nt H a → a ≠ S.p.a) → (∀ (j : Nat) (t : Sl) (a : Addr), ρ[j]? = some t → t.isOwn = true → σ[j]? = some (some (.ref a)) → Nt H a) → ER S κ I' H' (setAll ρ is l) (setAllV σ is vs) := by
  induction h with
  | nil =>
    intro is ρ σ e _ _ _
    cases is <;> exact e
  | @cons H H1 s v l vs h m n t ih =>
    intro is ρ σ e h0 hp ap
    cases is with
    | nil => exact e
    | cons i is =>
      show ER S κ I' H' (setAll (ρ.set i s) is l) (setAllV (σ.set i (some v)) is vs)
      refine ih (e.setF h h0 hp fun j t a _ hj ho hq => ap j t a hj ho hq) (fun a z => h0 a fun q => z (m a q)) (fun a z => hp a fun q => z (m a q)) fun j t a hj ho hq => ?_
      by_cases hij : i = j
      · subst hij
        have il : i < ρ.length := by simpa using (List.getElem?_eq_some_iff.mp hj).1
        rw [List.getElem?_set_self il] at hj
        rw [List.getElem?_set_self (e.len ▸ il)] at hq
        cases hj
        exact n ho a (Option.some.inj (Option.some.inj hq))
      · rw [List.getElem?_set_ne hij] at hj hq
        exact m a (ap j t a hj ho hq)
def xsM : List XW → Env' → WP (List Sl)
  | [], _ => pure []
  | t :: ts, ρ => do let s ← t ρ; let l ← xsM ts ρ; pure (s :: l)
def tXA (S : Sx) (κ : Cp) (W : WX) : List XW → TA
  | [] => tNil
  | t :: ts => tCons (tX S κ W t) (tXA S κ W ts)
theorem slf_there {S : Sx} {H I' H' : Hp} {s : Sl} {v : V} (h : SlF S H I' H' s v) (o : s.isOwn = true) : ∀ a, v = .ref a → Nt H' a := fun a e => by
  cases s with
  | no => cases o
  | val d => cases o
  | own l => obtain ⟨_, _, a', ea, f, g, w⟩ := h; rw [ea] at e; cases e; exact w.there
  | obj c ns l => exact absurd ⟨c, ns, l, rfl⟩ (slf_obj h)
  | od l => obtain ⟨_, _, a', ea, f, g, w⟩ := h; rw [ea] at e; cases e; exact w.there
  | ok l => obtain ⟨_, _, a', ea, f, g, w⟩ := h; rw [ea] at e; cases e; exact w.there
  | oa c l => obtain ⟨_, _, a', ea, f, g, w⟩ := h; rw [ea] at e; cases e; exact w.there
theorem tXA_run {S : Sx} {κ : Cp} {W : WX} {σ : St} {α : Type} : ∀ {ts : List XW} {I H : Hp} {ρ : Env'} {b : Nat} {f : List Sl → WP α} {Z : α → Nat → Prop} {Q : List V → Hp → Prop}, SR S I H b → ER S κ I H ρ σ → (xsM ts ρ >>= f).run b Z (KX S I H fun cls d H' => W cls d σ H') →
    (∀ l b' vs I' H', Stp S I H I' H' → SR S I' H' b' → ER S κ I' H' ρ σ → SlFs S I' H' H l vs → (f l).run b' Z (KX S I' H' fun cls d H' => W cls d σ H') → Q vs H') → tXA S κ W ts σ H Q
  | [], I, H, ρ, b, f, Z, Q, sr, er, h, k => k [] b [] I H .refl sr er .nil h
  | t :: ts, I, H, ρ, b, f, Z, Q, sr, er, h, k => by
    refine ⟨I, ρ, b, sr, er, (t ρ).mono h (fun s b1 h1 v I1 H1 x1 s1 r1 => ?_) fun _ _ z => z⟩
    refine tXA_run (ts := ts) (f := fun l => f (s :: l)) (Z := Z) s1 (er.stp x1 ⟨_, sr⟩) (WP.mono _ h1 (fun _ _ z => z) fun _ _ z => z.mono x1) fun l b2 vs I2 H2 x2 s2 er2 r2 h2 => ?_
    exact k (s :: l) b2 (v :: vs) I2 H2 (x1.trans x2) s2 er2 (.cons (slf_later x2 ⟨_, s1⟩ (fun a f => sr.pne f) r1) (fun a z => x1.tt a z) (slf_there r1) r2) h2
def sParN (is : List Nat) (ts : List XW) : SW := fun ρ => do let l ← xsM ts ρ; pure (.nx (setAll ρ is l))
def namesT : List Nat → Tgt
  | [] => .nil
  | i :: is => .cons (.nm i) (namesT is)
theorem namesT_many : ∀ is : List Nat, (namesT is).many = is.length
  | [] => rfl
  | i :: is => by simp [namesT, Tgt.many, namesT_many is]
theorem namesT_gs {K : PySem.W.Frag} {H : Hp} {Q : St → Hp → Prop} : ∀ {is : List Nat} {vs : List V} {σ : St}, vs.length = is.length → Q (setAllV σ is vs) H → Tgt.gs K (namesT is) vs σ H Q
  | [], [], σ, _, q => by rw [namesT, Tgt.gs]; exact ⟨rfl, q⟩
  | i :: is, v :: vs, σ, hl, q => by
    rw [namesT, Tgt.gs]
    refine ⟨v, vs, rfl, ?_⟩
    rw [Tgt.tg]
    exact namesT_gs (is := is) (vs := vs) (by simpa using hl) q
section
variable {X : Cx} {κ : Cp} {E : XK} {tgs es : List Expr} {pos pt pt2 : Pos} {kt k2 : Nat} {ts : List XW}
theorem ds_parT (i : Nat) (is : List Nat) (ha : PA X es (tXA (Sx.of X κ) κ (wOf E) ts)) (hl : ts.length = is.length + 1) (hg : PG X (.Tuple tgs kt pt) ((namesT (i :: is)).tg X.K)) (hz : ts.length ≤ 100 := by decide)
    (hs : swapsWithSole [.Tuple tgs kt pt] (.Tuple es k2 pt2) pos.line X.env = pure false := by rfl) (hw : swappedStores [.Tuple tgs kt pt] (.Tuple es k2 pt2) X.env = pure none := by rfl) (h1 : (assignEach [.Tuple tgs kt pt] X.env).map (·.2) = [assign (.Tuple tgs kt pt) X.env] := by rfl) :
    DS X κ E (.Assign [.Tuple tgs kt pt] (.Tuple es k2 pt2) pos) (sParN (i :: is) ts) :=
  PS.imp (ps_asg (pe_tup ha) hg hs hw h1) fun Z σ H ⟨I, ρ, b, w, h⟩ => by
    have hx : (xsM ts ρ >>= fun l => (Pure.pure (Fl.nx (setAll ρ (i :: is) l)) : WP Fl)).run b (KF (Sx.of X κ) κ I Z) (KX (Sx.of X κ) I H fun cls d H' => wOf E cls d σ H') := WP.mono _ h (fun _ _ z => z) fun _ _ z => z.kx w.st
    have ll : ∀ {ts : List XW} {ρ : Env'} {b : Nat} {Q : List Sl → Nat → Prop} {E : Ex → Nat → Prop}, (xsM ts ρ).run b Q E → (xsM ts ρ).run b (fun l b' => l.length = ts.length ∧ Q l b') E := by
      intro ts
      induction ts with
      | nil => exact fun h => ⟨rfl, h⟩
      | cons t ts ih =>
        intro ρ b Q E h
        refine (t ρ).mono h (fun s b1 h1 => ?_) fun _ _ z => z
        refine (xsM ts ρ).mono (ih h1) (fun l b2 h2 => ⟨by simp [h2.1], h2.2⟩) fun _ _ z => z
    have hx' := ll (Q := fun l b' => (Pure.pure (Fl.nx (setAll ρ (i :: is) l)) : WP Fl).run b' (KF (Sx.of X κ) κ I Z) (KX (Sx.of X κ) I H fun cls d H' => wOf E cls d σ H')) hx
    refine tXA_run (f := fun l => (WP.need (l.length = ts.length) (Pure.pure (Fl.nx (setAll ρ (i :: is) l))) : WP Fl)) (Z := KF (Sx.of X κ) κ I Z) w.sr w.er (WP.mono _ hx' (fun l b' z => z) fun _ _ z => z) fun l b' vs I1 H1 x1 s1 er1 r1 h1 => ?_
    obtain ⟨hl1, h1⟩ := h1
    have hvl : vs.length = ts.length := by rw [← r1.len]; exact hl1
    refine ⟨by rw [hvl, sizeLine_eq]; omega, fun p hp => ?_⟩
    rw [namesT, Tgt.tg]
    refine ⟨p, vs, rfl, .inl (.inl upd_same), by rw [namesT_many, hvl]; exact hl, ?_⟩
    have x2 : Stp (Sx.of X κ) I1 H1 I1 (upd H1 p (.tup vs)) := Stp.newOwn hp
    have s2 : SR (Sx.of X κ) I1 (upd H1 p (.tup vs)) b' := s1.newOwn hp plain_tup
    have w1 := (w.stp x1 s1).stp x2 s2
    have r2 := r1.later x2 ⟨_, s1⟩ (fun a f => w.sr.pne f)
    have e2 := er_setAll (is := i :: is) r2 w1.er (fun a f => w.h0 f) (fun a f => w.sr.pne f) fun j t a hj ho hq => (w.er.there hj ho hq).1
    cases vs with
    | nil => rw [← hvl] at hl; simp at hl
    | cons v vs =>
      refine ⟨v, vs, rfl, ?_⟩
      rw [Tgt.tg]
      exact namesT_gs (by rw [List.length_cons] at hvl; omega) (h1 _ I1 _ ⟨s2, e2, w1.st⟩ (x1.ii.trans x2.ii))
theorem pxa_nil {W : WX} : PA X [] (tXA (Sx.of X κ) κ W []) := pa_nil
theorem pxa_cons {W : WX} {e : Expr} {t : XW} (ha : DX X κ W e t) (hr : PA X es (tXA (Sx.of X κ) κ W ts)) (hs : starEach (e :: es) X.env = (false, eval e X.env) :: starEach es X.env := by rfl) : PA X (e :: es) (tXA (Sx.of X κ) κ W (t :: ts)) := pa_cons ha hr hs
end
/-! ### len(d), d a dict of our own -/
section
variable {prog : Program} {w : World} {A : Around} {E : Value → Shared → Prop} {s : Shared}
open Sem (wp)
/-- the size of the dict's object, nothing pending -/
theorem g_size_at {d : Addr} {xs : List GE} {Q : Nat → Shared → Prop} (hm : GDict w s.heap d xs) (q : Q xs.length s) : wpAny (model prog w) A (dictSize d) Q E s := by
  have ⟨o, es, ep, g1, _, g3, g4, _⟩ := hm
  exact wpAny_bind (wpAny_dictEntries g1 g3 (wpAny_pure (g_size g4 ▸ q)))
theorem g_lenM {d : Addr} {xs : List GE} {Q : Value → Shared → Prop} (hd : (d == sysModules) = false) (hm : GDict w s.heap d xs) (q : Q (.int xs.length s.toks) { s with toks := s.toks + 1 }) : wpAny (model prog w) A (call (.builtin "dict.__len__") [.ref d]) Q E s :=
  wpAny_call_entry F.slot_dict_len hm.typeIs F.entry_dict_len (wpAny_bind (m := dictSize d) (g_size_at hm (wpAny_bind (m := Builtin.Dict.pendingCount d) (wpAny_pendingCount_other hd (wpAny_ret_mkInt (by simpa using q)))))) (F.args_dict_len_1 _)
theorem g_len {d : Addr} {xs : List GE} {Q : Value → Shared → Prop} (hd : (d == sysModules) = false) (hm : GDict w s.heap d xs) (hf : xs.length ≤ sizeLine) (q : Q (.int xs.length (s.toks + 1)) { s with toks := s.toks + 1 + 1 }) : wpAny (model prog w) A (call (.builtin "len") [.ref d]) Q E s := by
  have few := sizeLine_eq ▸ hf
  have low : ¬ ((xs.length : Nat) : Int) < 0 := by omega
  have top : ¬ ((xs.length : Nat) : Int) ≥ 2 ^ 63 := by omega
  refine Calls.call_function_entry kind_len plain_len entry_len (args_len1 _) (wpAny_bind (m := oneArg "len" _) (wpAny_pure (wpAny_bind (m := callSpecial? (.ref d) (Str.ofString "__len__")) (wpAny_callSpecial?_slot hm.typeIs F.slot_dict_len (g_lenM hd hm (wpAny_bind (wpAny_holding (wpAny_pure (wpAny_bind (wpAny_letGo ?_))))))))))
  simp only [low, top, if_false]
  exact wpAny_bind (wpAny_mkInt (wpAny_pure ⟨_, rfl, q⟩))
end
section
variable {X : Cx} {κ : Cp} {W : WX} {x : Str} {pos pn pf : Pos} {i : Nat}
def rLenG (X : Cx) : List V → Hp → VK → Prop := fun vs H Q => ∃ (S : Sx) (J : Hp) (a : Addr) (l : List (D × D)) (xs : List GV), S.K = X.K ∧ Same J H ∧ vs = [.ref a] ∧ H a = some (GDO X.w a xs) ∧ KRk S J l xs ∧ Q (.int ((l.length : Nat) : Int)) H
theorem call_lenG : CallR X (.builtin "len") (rLenG X) := by
  intro pins s σ H vs us Q I r h
  obtain ⟨S, J, a, l, xs, hK, sm, rfl, ha, rk, q⟩ := h
  obtain ⟨u, rfl, rx⟩ := vals1 r
  obtain rfl : u = .ref a := rx
  obtain ⟨ys, p, hl', hs, dd⟩ := gdo_at I sm hK ha rk
  have e1 : l.length = ys.length := (Paired.length rk).trans (gx_len p)
  refine g_len hs dd hl' ?_
  rw [← e1]
  exact ⟨.int ((l.length : Nat) : Int), H, I.tok _, ⟨_, rfl⟩, q⟩
theorem de_lenG (hg : Gl X "len") (hm : X.mg "len" = none) (hv : PE X (.Name x pn) (tVar i)) (he : starEach (Expr.Name x pn :: []) X.env = (false, eval (.Name x pn) X.env) :: starEach [] X.env := by rfl) (hpl : (backTo pos (starEach [] X.env)).any (·.1) = false := by rfl) :
    DE X κ W (.Call (.Name "len" pf) [.Name x pn] [] pos) (eLenG i) :=
  PE.imp (pe_callB call_lenG hg hm (by decide +kernel) (pa_cons hv pa_nil he) (by decide) (by decide) he hpl) fun σ H Q ⟨I, ρ, b, sr, er, h⟩ => by
    unfold eLenG at h
    split at h
    · rename_i l e
      obtain ⟨a, ha, _, _, _, xs, g1, g2⟩ := ok_at er e
      exact ⟨.ref a, ha, Sx.of X κ, I, a, l, xs, rfl, sr.sub, rfl, g1, g2, h _ I H .refl sr (by simp [Rp])⟩
    · exact h.elim
end
end L2.NW
end
section
set_option Elab.async false
set_option autoImplicit false
set_option linter.all false
set_option maxRecDepth 100000
set_option maxHeartbeats 2000000
/-! NzR: repr of a tuple or list of plain data. -/
namespace L2.NW
open PySem PySem.Spec PyProof.Rows
section
variable {X : Cx}
def rReprD (K : PySem.W.Frag) : List V → Hp → VK → Prop := fun vs H Q => ∃ (a : Addr) (d : PyData), vs = [.ref a] ∧ Dp K H (.ref a) d ∧ d.showable = true ∧ d.hasDict = false ∧ d.depth ≤ 64 ∧ d.shown.length ≤ sizeLine ∧ Q (.str d.shown) H
theorem call_reprD (hg : X.A.guards = some []) (hu : X.A.units + 66 < cLine) : CallR X (.builtin "repr") (rReprD X.K) := by
  intro pins s σ H vs us Q I r h
  obtain ⟨a, d, rfl, hd, h1, h2, h3, h4, q⟩ := h
  obtain ⟨u, rfl, rx⟩ := vals1 r
  obtain rfl : u = .ref a := rx
  obtain ⟨as, r1⟩ := Dp.reads I d _ _ hd (show RelV (.ref a) (.ref a) from rfl)
  exact repr_of_reads' r1 h1 (fun z => by rw [h2] at z; cases z) hg (by omega) (fun _ _ e => e) (fun h' t tk hk => ⟨.str d.shown, H, I.kept hk, ⟨t, rfl⟩, q⟩) h4
def reprD (l : List D) : WP D := match l with
  | [.tup m] => WP.need (D.deep 64 (.tup m) ∧ (D.tup m).py.showable = true ∧ (D.tup m).py.hasDict = false ∧ (D.tup m).py.shown.length ≤ sizeLine) (pure (.str (D.tup m).py.shown))
  | _ => WP.bad
variable {κ : Cp} {W : WX} {e : Expr} {pos pf : Pos} {te : EW}
theorem de_repr (hgd : X.A.guards = some []) (hu : X.A.units + 66 < cLine) (hg : Gl X "repr") (hm : X.mg "repr" = none) (ha : DE X κ W e te) (he : starEach (e :: []) X.env = (false, eval e X.env) :: starEach [] X.env := by rfl) (hpl : (backTo pos (starEach [] X.env)).any (·.1) = false := by rfl) :
    DE X κ W (.Call (.Name "repr" pf) [e] [] pos) (fun ρ => do let d ← te ρ; reprD [d]) :=
  PE.imp (pe_callB (call_reprD hgd hu) hg hm (by decide +kernel) (pa_cons ha pa_nil he) (by decide) (by decide) he hpl) fun σ H Q ⟨I, ρ, b, sr, er, h⟩ => tD_bind sr er h fun d b1 v I1 H1 x1 s1 er1 r1 h1 => by
    cases d <;> first | exact h1.elim | skip
    rename_i m
    obtain ⟨⟨d1, d2, d3, d4⟩, h1⟩ := h1
    have dp := D.dp s1.sub 64 (.tup m) v d1 r1
    have r2 := r1
    simp only [Rp] at r2
    obtain ⟨a, vs, rfl, _⟩ := r2
    exact ⟨a, (D.tup m).py, rfl, dp, d2, d3, (D.lay 64 _ d1).2, d4, h1 _ I1 H1 x1 s1 (by simp [Rp])⟩
end
end L2.NW
end
section
set_option Elab.async false
set_option autoImplicit false
set_option linter.all false
set_option maxRecDepth 100000
set_option maxHeartbeats 2000000
/-! NzG: defs that tell a fresh list of their own; x = y of own things; what the printed texts need. -/
namespace L2.NW
open PySem PySem.Spec PyProof.Rows LamX NdefX
/-! ### a list handed from name to name -/
def sMove (i j : Nat) : SW := fun ρ => match (ρ[j]? : Option Sl) with
  | some (.own l) => pure (.nx ((ρ.set i (.own l)).set j .no))
  | _ => WP.bad
theorem set_same_self {σ : St} {j : Nat} {o : Option V} (h : σ[j]? = some o) : σ.set j o = σ := by
  obtain ⟨hl, he⟩ := List.getElem?_eq_some_iff.mp h
  rw [← he, List.set_getElem_self]
theorem ds_move {X : Cx} {κ : Cp} {E : XK} {i j : Nat} {x y : Str} {pos pos' pn : Pos} (hij : i ≠ j) (hN : X.N.Nodup) (hi : X.N[i]? = some x) (hx : Loc X.env.scope x) (hv : PE X (.Name y pn) (tVar j)) (hs : swapsWith (.Name y pn) (some (.Name x pos')) pos.line X.env = pure false := by rfl) (hf : X.fn x = true ∨ X.env.scope.names.lookup x = some .local := by first | exact .inl rfl | exact .inr rfl | assumption) :
    DS X κ E (.Assign [.Name x pos'] (.Name y pn) pos) (sMove i j) :=
  PS.imp (ps_set hN hi hx hv hs hf) fun Z σ H ⟨I, ρ, b, w, h⟩ => by
    unfold sMove at h
    split at h
    · rename_i l hj
      obtain ⟨a, ha, hf0, hI, hp, vs, g1, g2⟩ := own_at w.er hj
      refine ⟨.ref a, ha, ?_⟩
      have e0 := w.er.setNo' (i := j) (o := some (V.ref a))
      have e1 : ER (Sx.of X κ) κ I H ((ρ.set j .no).set i (.own l)) ((σ.set j (some (V.ref a))).set i (some (V.ref a))) := by
        refine e0.setOwn ⟨a, rfl, hf0, hI, hp, vs, g1, g2⟩ fun k t hk ht o q => ?_
        by_cases hkj : j = k
        · subst hkj
          have jl : j < ρ.length := (List.getElem?_eq_some_iff.mp hj).1
          rw [List.getElem?_set_self jl] at ht
          cases ht; cases o
        · rw [List.getElem?_set_ne hkj] at ht q
          exact hkj (w.er.apart j k _ _ a hj ht rfl o ha q)
      rw [set_same_self ha] at e1
      rw [List.set_comm _ _ (Ne.symm hij)] at e1
      exact h _ I H ⟨w.sr, e1, w.st⟩ fun _ _ z => z
    · exact h.elim
/-! ### defs that tell a fresh list -/
def tTl (S : Sx) (κ : Cp) (E : XK) (i : Nat) (t : SW) : TS := fun D σ H => ∃ I ρ b, WOk S κ I H b ρ σ ∧ (t ρ).run b (fun f b' => match f with
  | .nx ρ' => ∃ l, ρ'[i]? = some (.own l) ∧ ∀ a vs I' H', SR S I' H' b' → Stp S κ.i0 κ.h0 I' H' → ¬ Nt κ.h0 a → I' a = none → H' a = some (.lst vs) → Rps S I' l vs → D.rt (.ref a) H'
  | _ => False) (KXs S κ E)
def DTl (X : Cx) (κ : Cp) (E : XK) (i : Nat) (st : List Stmt) (t : SW) : Prop := PSs X st (tTl (Sx.of X κ) κ E i t)
section
variable {X : Cx} {κ : Cp} {E : XK} {i : Nat} {st : Stmt} {rest : List Stmt} {t u : SW} {x : Str} {pn pos : Pos}
theorem dtl_ret (hv : PE X (.Name x pn) (tVar i)) : DTl X κ E i [.Return (some (.Name x pn)) pos] (fun ρ => pure (.nx ρ)) :=
  PSs.imp (pss_one (ps_ret hv)) fun D σ H ⟨I, ρ, b, w, ⟨l, hl, h⟩⟩ => by
    obtain ⟨a, ha, hf0, hI, hp, vs, g1, g2⟩ := own_at w.er hl
    exact ⟨.ref a, ha, h a vs I H w.sr w.st hf0 hI g1 g2⟩
theorem dtl_cons (h1 : DS X κ E st t) (h2 : DTl X κ E i rest u) : DTl X κ E i (st :: rest) (sSeq t u) :=
  PSs.imp (pss_cons h1 h2) fun D σ H ⟨I, ρ, b, w, h⟩ => ⟨I, ρ, b, w, (t ρ).mono h (fun f b' h' => by
    cases f with
    | nx ρ' => exact fun σ' I' H' w' x => ⟨I', ρ', b', w', (u ρ').mono h' (fun _ _ z => z) fun _ _ z => z⟩
    | rt d => exact h'.elim
    | bk ρ' => exact h'.elim
    | ct ρ' => exact h'.elim) fun _ _ z => z⟩
end
abbrev MirL := List D → WP (List D)
def bodyL (n i : Nat) (t : SW) : MirL := fun ds => do
  let f ← t (startD n ds)
  match f with
  | .nx ρ => match (ρ[i]? : Option Sl) with
    | some (.own l) => pure l
    | _ => WP.bad
  | _ => WP.bad
structure CalL (P : Program) (w : World) (K : PySem.W.Frag) (mg : Str → Option Value) (base : Heap) (p : Pt) (k : Nat) (x : Str) (n : Nat) (m : MirL) : Prop where
  ex : ∃ (f : Addr) (fd : FuncData) (ps : List Str), mg x = some (.ref f) ∧ PySem.W.keepIn K (.ref f) = true ∧ Binds K fd ps [] ∧ ps.length = n ∧
    FnOk P w K mg base (L2.CX P w) k f fd ps (fun vs H Q E => vs.length = n ∧ ∃ I b ds, SR ⟨K, mg, p, w⟩ I H b ∧ Rps ⟨K, mg, p, w⟩ I ds vs ∧ (m ds).run b (KL ⟨K, mg, p, w⟩ I H Q) (KX ⟨K, mg, p, w⟩ I H E))
section
variable {P : Program} {w : World} {K : PySem.W.Frag} {mg : Str → Option Value} {base : Heap} {p : Pt} {x y : Str} {st : Stmt} {N ps : List Str} {k n i : Nat} {t : SW}
theorem cal_byL (d : DefOkY K mg y x st ps) (S : FnScope N ps (defScope st)) (hn : ps.length = n)
    (body : ∀ (f : Addr) (κ : Cp) (cdv : Value) (A : Around) (outer : List Env) (s : Shared) (H : Hp) (E : XK), κ.p = p → Room k (A.deeper (envOfC x (defScope st) s.heap.objs.size f cdv)) →
      DTl (cxOf (L2.CX P w) P w K mg base N x (defScope st) f cdv A outer s H E) κ E i (defBody st) t) : CalL P w K mg base p (k + 1) y n (bodyL N.length i t) := by
  obtain ⟨f, fd, hm, F, hb⟩ := d
  refine ⟨f, fd, ps, hm, F.kp, hb, hn, F.okX S (fun vs H Q E h => h.1.trans hn.symm) fun cdv A outer s H vs Q E hr h => ?_⟩
  obtain ⟨hl, I, b, ds, sr, r, h⟩ := h
  refine ⟨_, body f ⟨p, I, H, 0, 0⟩ cdv A outer s H E rfl hr, I, startD N.length ds, b, ⟨sr, r.start, .refl⟩, ?_⟩
  refine (t (startD N.length ds)).mono h (fun fl b' h' => ?_) fun _ _ z cls d I' H' s' x' r' => z cls d I' H' x' s' r'
  cases fl with
  | nx ρ =>
    dsimp only at h' ⊢
    split at h'
    · rename_i l hl
      exact ⟨l, hl, fun a vs I' H' s' x' f' n' g r' => h' a vs I' H' x' s' f' n' g r'⟩
    · exact h'.elim
  | rt d => exact h'.elim
  | bk ρ => exact h'.elim
  | ct ρ => exact h'.elim
end
section
variable {X : Cx} {κ : Cp} {W : WX} {e : Expr} {es : List Expr} {pos pn : Pos} {x : Str} {ts : AW} {m : MirL} {j k n : Nat}
def lCall (n : Nat) (m : MirL) (ts : AW) : AW := fun ρ => do let xs ← ts ρ; WP.need (xs.length = n) (m xs)
theorem dl_call (c : CalL X.prog X.w X.K X.mg X.base κ.p j x n m) (hr : Room k X.A) (hj : j ≤ k) (hg : Gl X x) (tk : Takes X W) (ha : DA X κ W (e :: es) ts) (hn : (e :: es).length = n := by rfl) (hdb : (x == ("__debug__" : Str)) = false := by decide)
    (he : starEach (e :: es) X.env = (false, eval e X.env) :: starEach es X.env := by rfl) (hpl : (backTo pos (starEach es X.env)).any (·.1) = false := by rfl) :
    DL X κ W (.Call (.Name x pn) (e :: es) [] pos) (lCall n m ts) := by
  obtain ⟨f, fd, ps, h1, h2, h3, h4, h5⟩ := c.ex
  refine ⟨fun pins s σ H Q J h => ?_⟩
  obtain ⟨I, ρ, b, sr, er, h⟩ := h
  refine wpAny_Call_Name_kw (ld_glob J hg h1 ?_ hdb)
  have args : tDA (Sx.of X κ) κ W ts σ H (fun vs H2 => ∀ us s2, Inv X pins σ H2 s2 → Vals vs us → wpAny (model X.prog X.w) X.A (call (.ref f) us) (EP X pins σ Q) X.xe s2) := by
    refine tDA_bind sr er h fun ds b1 vs I1 H2 x1 s1' er1 r1 h1 us s2 J2 ru => ?_
    have hl : vs.length = n := by rw [← r1.len]; exact h1.1
    have hc := h5.run X.A X.stack s2 H2 ⟨us, []⟩ us vs Q (fun cls d H' => W cls d σ H') (hr.mono hj) J2.env0 (by
      have z := h3 s2 us J2.kIn (by rw [List.append_nil, ← ru.length, hl, h4])
      rwa [List.append_nil] at z) ru ⟨hl, I1, b1, ds, s1', r1, (m ds).mono h1.2 (fun l b' z a vs I' H' y s f n g r => z a vs I' H' (x1.trans y) s (fun q => f (x1.tt a q)) n g r) fun _ _ z => z⟩
    refine wpAny_call (codeAny_mono hc fun r s' hq => ?_)
    cases r with
    | error e => exact passAt tk σ pins H2 s2 e s' J2 hq
    | ok fl =>
      cases fl with
      | ret u => exact J2.after hq
      | next => exact False.elim hq
      | brk => exact False.elim hq
      | cont => exact False.elim hq
  exact PySem.W.callWith_K (h₀ := X.base) J.ok.mod.kin h2 (thn (ha.run pos pins s σ H _ J args) fun us s2 ⟨vs, H2, J2, r, q⟩ => ⟨J2.kIn, q us s2 J2 r⟩) he hpl
end
/-! ### what the printed texts need -/
theorem CloB.mono {X : Cx} {κ : Cp} {j i k : Nat} {m : Env' → Mir} (c : CloB X κ j i m) (h : j ≤ k) : CloB X κ k i m :=
  ⟨fun I0 H0 ρ0 σ0 er => let ⟨qs, h1, h2⟩ := c.run I0 H0 ρ0 σ0 er; ⟨qs, h1, fun A outer s H I b v us vs ds Q E hr => h2 A outer s H I b v us vs ds Q E (hr.mono h)⟩, c.fn, c.st⟩
/-- function values by name -/
def lamsL (l : List (Nat × FV)) : Nat → FV := fun j => (l.lookup j).getD .no
theorem lookup_none_keys {α β : Type} : ∀ {l : List (Nat × α)} {m : List (Nat × β)} {j : Nat}, l.map (·.1) = m.map (·.1) → m.lookup j = none → l.lookup j = none
  | [], [], _, _, _ => rfl
  | (a, x) :: l, (b, y) :: m, j, h, n => by
    simp only [List.map_cons, List.cons.injEq] at h
    obtain ⟨rfl, h⟩ := h
    rw [List.lookup_cons] at n ⊢
    split at n
    · cases n
    · exact lookup_none_keys h n
theorem lams_no {l : List (Nat × FV)} {own : List (Nat × (Env' → Mir))} (h : l.map (·.1) = own.map (·.1)) {j : Nat} (n : isIn own j = false) : lamsL l j = .no := by
  unfold isIn at n
  cases e : own.lookup j with
  | some m => rw [e] at n; cases n
  | none => unfold lamsL; rw [lookup_none_keys h e]; rfl
/-- a def that makes function values: its code object, that one's table -/
structure TabM (K : PySem.W.Frag) (mg : Str → Option Value) (base : Heap) (T : List NTab) (x : Str) (st : Stmt) (ps : List Str) (c P : Addr) (nm : Nat → Nat → Str) : Prop where
  d : DefOkC K mg x st ps c
  tb : TabB base mg c P
  mem : (P, nm) ∈ T
  un : ∀ q ∈ T, q.1 = P → q.2 = nm
def lm0 : Lm := ⟨{ posonlyargs := [], args := [], vararg := none, kwonlyargs := [], kw_defaults := [], kwarg := none, defaults := [] }, .Constant .none 0 ⟨0, 0, 0, 0⟩, { kind := .function, names := [], isGenerator := false, isCoroutine := false }⟩
def lmE : Expr → Lm
  | .Lambda p b s _ => ⟨p, b, s⟩
  | _ => lm0
abbrev eDf : Expr := .Constant .none 0 ⟨0, 0, 0, 0⟩
abbrev sDf : Stmt := .Pass ⟨0, 0, 0, 0⟩
def xArg (i : Nat) : Expr → Expr
  | .Call _ as _ _ => as.getD i eDf
  | _ => eDf
def xUn : Expr → Expr
  | .UnaryOp _ e _ => e
  | _ => eDf
def xL : Expr → Expr
  | .Compare l _ _ _ => l
  | .BinOp l _ _ _ => l
  | _ => eDf
def sX : Stmt → Expr
  | .Assign _ e _ => e
  | .Return (some e) _ => e
  | .Expr e _ => e
  | .If e _ _ _ => e
  | .While e _ _ _ => e
  | .For _ e _ _ _ => e
  | _ => eDf
def sB : Stmt → List Stmt
  | .If _ b _ _ => b
  | .For _ _ b _ _ => b
  | .While _ b _ _ => b
  | _ => []
/-- a call that hands function values on -/
def eCallH (n : Nat) (M : (Nat → Mir) → Mir) (own : List (Nat × (Env' → Mir))) (Φ : Nat → Mir) (ts : AW) : EW := fun ρ => do let xs ← ts ρ; WP.need (xs.length = n) (M (mixM own ρ Φ) xs)
theorem CsOk.xfld {K : PySem.W.Frag} {mg : Str → Option Value} {F : Str → Str → Option Bool} {k : Cs} (c : CsOk K mg F k) {f : Str} (h : f ∈ k.fs) : XFld K mg [k.c] f := fun x hx C hC => by
  rw [List.mem_singleton.mp hx] at hC
  obtain ⟨⟨C', h1, h2, h3⟩, _⟩ := c
  rw [h1] at hC
  cases hC
  exact ⟨h2, h3 f h⟩
section
variable {X : Cx} {κ : Cp} {W : WX} {x : Str} {pos : Pos} {j : Nat}
/-- a def of the module as a value -/
theorem de_stat {f : Addr} (hg : Gl X x) (hm : X.mg x = some (.ref f)) (hl : κ.p.lam j = .stat f) (hdb : (x == ("__debug__" : Str)) = false := by decide) : DE X κ W (.Name x pos) (eC (.fn j)) :=
  de_const (pe_cls hg hm hdb) fun I => by simp only [Rp]; show (κ.p.lam j).at_ I _; rw [hl]; rfl
end
section
variable {K : PySem.W.Frag} {h : Heap} {mg : Str → Option Value} {x y : Str} {st : Stmt} {ps : List Str} {f : Addr} {oc kV doc pm cdv ct : Value} {an od : Option Addr} {osl : Array (Option Value)}
theorem mk_defY (X : K.In h) (G : h.Ns mainGlobals mg) (a : PySem.W.nsIn K mainGlobals y = some (some (.ref f))) (l : K.lookup f = some ⟨oc, od, .func (PySem.W.fnOf x x (defArgs st) (defBody st) (defScope st) .none kV doc pm an cdv ct), osl⟩) (c : PySem.W.codeIn K cdv x = true) (k : PySem.W.keepIn K (.ref f) = true)
    (b : ∀ (kV doc pm : Value) (an : Option Addr) (cdv ct : Value) (us : List Value), us.length = ps.length → bindArgs (PySem.W.fnOf x x (defArgs st) (defBody st) (defScope st) .none kV doc pm an cdv ct) ⟨us, []⟩ = pure (ps.zip us)) : DefOkY K mg y x st ps :=
  ⟨f, _, PySem.W.mg_of X G a, fun_mk (st := st) l c k, (fun_mk (st := st) l c k).binds b⟩
end
end L2.NW
end
section
set_option Elab.async false
set_option autoImplicit false
set_option linter.all false
set_option maxRecDepth 100000
set_option maxHeartbeats 2000000
/-! NzH: list(range(n)). -/
namespace L2.NW
open PySem PySem.Spec PyProof.Rows
def lRg (te : EW) : AW := fun ρ => do
  let d ← te ρ
  match d with
  | .int j => WP.need (-(2 ^ 62) ≤ j ∧ j ≤ 16777216) (pure (rangeL 0 j.toNat))
  | _ => WP.bad
theorem rps_rg {S : Sx} {I : Hp} (n : Nat) : Rps S I (rangeL 0 n) ((List.range n).map fun i => V.int (0 + (i : Nat))) := by
  unfold rangeL
  induction List.range n with
  | nil => exact .nil
  | cons i l ih => exact .cons (by simp [Rp]) ih
theorem dl_listRg {X : Cx} {κ : Cp} {W : WX} {e : Expr} {te : EW} {p pos p2 pos2 : Pos} (hc : X.calm = true) (hg : Gl X "list") (hm : X.mg "list" = none) (hg2 : Gl X "range") (hm2 : X.mg "range" = none) (he : DE X κ W e te) (na : starEach [e] X.env = (false, eval e X.env) :: starEach [] X.env := by rfl)
    (nb : starEach [Expr.Call (.Name "range" p2) [e] [] pos2] X.env = (false, eval (.Call (.Name "range" p2) [e] [] pos2) X.env) :: starEach [] X.env := by rfl) : DL X κ W (.Call (.Name "list" p) [.Call (.Name "range" p2) [e] [] pos2] [] pos) (lRg te) :=
  PE.imp (pe_listRg hc hg hm (prg_1 hg2 hm2 he na) nb) fun σ H Q ⟨I, ρ, b, sr, er, h⟩ => by
    refine tD_bind sr er h fun d b1 v I1 H1 x1 s1 er1 r1 h1 => ?_
    cases d <;> first | exact h1.elim | skip
    rename_i j
    simp only [Rp] at r1
    obtain ⟨⟨h2, h3⟩, h1⟩ := h1
    refine ⟨j, r1, ?_⟩
    refine ⟨⟨by omega, by omega, h2, by omega, by omega⟩, fun q hq => kl_fresh x1 s1 hq ?_ h1⟩
    unfold rgV
    rw [Int.sub_zero]
    exact rps_rg _
end L2.NW
end
section
set_option Elab.async false
set_option autoImplicit false
set_option linter.all false
set_option maxRecDepth 100000
set_option maxHeartbeats 2000000
/-! NzI: an own thing lent for one expression. -/
namespace L2.NW
open PySem PySem.Spec PyProof.Rows
namespace WP
end WP
/-- I without what stands at a -/
def less (I : Hp) (a : Addr) : Hp := fun b => if b = a then none else I b
section
variable {S : Sx} {I I' H H' : Hp} {a : Addr} {o : HO} {b : Nat}
end
end L2.NW
end
section
set_option Elab.async false
set_option autoImplicit false
set_option linter.all false
set_option maxRecDepth 100000
set_option maxHeartbeats 2000000
/-! NzJ: l.index(x). -/
namespace L2.NW
open PySem PySem.Spec PyProof.Rows
def placeD (l : List D) (d : D) : Option Nat := l.findIdx? fun z => D.eq z d
def idxOf (x y : D) : WP D := match x with
  | .lst l => WP.need (D.deep 64 y ∧ D.deeps 63 l) (match placeD l y with
    | some j => pure (.int (j : Nat))
    | none => WP.bad)
  | _ => WP.bad
section
variable {X : Cx} {κ : Cp} {W : WX} {o e : Expr} {apos cpos : Pos} {to te : EW}
end
end L2.NW
end
section
set_option Elab.async false
set_option autoImplicit false
set_option linter.all false
set_option maxRecDepth 100000
set_option maxHeartbeats 2000000
/-! NzK: sorted(set(l)) of tuples of ints, by the kit's cr_setOfT and cr_sortedT. -/
namespace L2.NW
open PySem PySem.Spec PyProof.Rows
section
variable {X : Cx} {κ : Cp} {W : WX} {a : Expr} {p p2 q pos : Pos} {te : EW} {B : Int}
end
end L2.NW
end
section
set_option Elab.async false
set_option autoImplicit false
set_option linter.all false
set_option maxRecDepth 100000
set_option maxHeartbeats 2000000
/-! NzL: y = [.. for ..], kept as a list of the name's own. -/
namespace L2.NW
open PySem PySem.Spec PyProof.Rows
section
variable {X : Cx} {κ : Cp} {E : XK} {elt tg iter : Expr} {ifs : List Expr} {scope : Scope} {pos spos py : Pos} {ti : AW} {t : Tgt} {tt : BW} {te : EW} {vs : List Nat}
end
end L2.NW
end
section
set_option Elab.async false
set_option autoImplicit false
set_option linter.all false
set_option maxRecDepth 100000
set_option maxHeartbeats 2000000
/-! NzM: a list of lists that change: each inner list stands in a slot of its own, under a name that the def does not have. -/
namespace L2.NW
open PySem PySem.Spec PyProof.Rows
/-! ### names that are none -/
/-- the same but at gs -/
def AsBut (gs : List Nat) (σ τ : St) : Prop := σ.length = τ.length ∧ ∀ j, j ∉ gs → σ[j]? = τ[j]?
def Ends.but (D : Ends) (gs : List Nat) : Ends := { D with nx := fun σ H => ∃ τ, AsBut gs σ τ ∧ D.nx τ H }
/-! ### lists, each at an address of its own -/
/-- ls lie at bs, made since H -/
abbrev InnerAt (S : Sx) (H I' H' : Hp) : List Addr → List (List D) → Prop := Paired fun b l => ¬ Nt H b ∧ I' b = none ∧ OwnAt S I' H' b (.oa b l)
theorem InnerAt.stp {S : Sx} {H I1 H1 I2 H2 : Hp} {bs : List Addr} {ls : List (List D)} (x : Stp S I1 H1 I2 H2) (hb : ∃ b, SR S I1 H1 b) (hp : ∀ a, ¬ Nt H a → a ≠ S.p.a) (h : InnerAt S H I1 H1 bs ls) : InnerAt S H I2 H2 bs ls :=
  Paired.mapP h fun b l ⟨f, n, w⟩ => ⟨f, x.nn b w.there n, w.stp x hb (hp b f)⟩
theorem InnerAt.upd {S : Sx} {H I' H' : Hp} {bs : List Addr} {ls : List (List D)} {a : Addr} {o : HO} (h : InnerAt S H I' H' bs ls) (n : a ∉ bs) : InnerAt S H I' (upd H' a o) bs ls := by
  induction h with
  | nil => exact .nil
  | cons h t ih =>
    obtain ⟨f, i, z, vs, e, r⟩ := h
    rw [List.mem_cons, not_or] at n
    exact .cons ⟨f, i, z, vs, by rw [upd_ne (Ne.symm n.1)]; exact e, r⟩ (ih n.2)
theorem InnerAt.frz {S : Sx} {H I' H' : Hp} {bs : List Addr} {ls : List (List D)} {a : Addr} {o : HO} (h : InnerAt S H I' H' bs ls) (n : a ∉ bs) (hi : I' a = none) : InnerAt S H (L2.upd I' a o) H' bs ls := by
  induction h with
  | nil => exact .nil
  | cons h t ih =>
    obtain ⟨f, i, z, vs, e, r⟩ := h
    rw [List.mem_cons, not_or] at n
    exact .cons ⟨f, by rw [upd_ne (Ne.symm n.1)]; exact i, z, vs, e, r.same (same_upd hi)⟩ (ih n.2)
section
variable {κ : Cp} {W : WX}
end
/-! ### slots for them -/
theorem AsBut.set {gs : List Nat} {σ τ : St} (e : AsBut gs σ τ) (i : Nat) (v : Option V) : AsBut gs (σ.set i v) (τ.set i v) := by
  refine ⟨by simp [e.1], fun j hj => ?_⟩
  rw [List.getElem?_set, List.getElem?_set, e.1, e.2 j hj]
section
variable {X : Cx} {κ : Cp} {E : XK} {elt tg iter : Expr} {ifs : List Expr} {scope : Scope} {pos spos py : Pos} {ti : AW} {t : Tgt} {tt : BW} {te : AW} {vs : List Nat}
end
/-! ### one of them changes -/
def oaIn (ρ : Env') (gs : List Nat) (b : Addr) : Option (Nat × List D) := gs.findSome? fun j => match (ρ[j]? : Option Sl) with
  | some (.oa c l) => if c = b then some (j, l) else none
  | _ => none
section
variable {X : Cx} {κ : Cp} {E : XK} {o e : Expr} {apos cpos pos : Pos} {to te : EW}
end
/-! ### all of it becomes data -/
/-- what the raw addresses stand for -/
def inner (ρ : Env') (gs : List Nat) : List D → Option (List D)
  | [] => some []
  | .raw (.ref b) :: ds => match oaIn ρ gs b, inner ρ gs ds with
    | some (_, l), some ls => some (.lst l :: ls)
    | _, _ => none
  | _ :: _ => none
end L2.NW
end
section
set_option Elab.async false
set_option autoImplicit false
set_option linter.all false
set_option maxRecDepth 100000
set_option maxHeartbeats 2000000
/-! NzN: a != b of objects with an own __eq__ and no __ne__ (object.__ne__ asks the own __eq__). -/
namespace L2.NW
open PySem PySem.Spec PyProof.Rows
section
variable {prog : Program} {w : World} {A : Around} {E : Value → Shared → Prop} {s : Shared} {K : PySem.W.Frag} {x y C f : Addr} {ox oy : Obj} {od : Option Obj}
end
section
variable {X : Cx} {C f : Addr} {fd : FuncData} {ps : List Str} {sp : Sp} {n : Nat}
end
section
variable {X : Cx} {κ : Cp} {W : WX} {a b : Expr} {pos : Pos} {ta tb : EW} {c : Str} {m : Mir} {j k : Nat}
end
end L2.NW
end
section
set_option Elab.async false
set_option autoImplicit false
set_option linter.all false
set_option maxRecDepth 100000
set_option maxHeartbeats 2000000
/-! NzO: a call of one of several defs of the module, told by a name; list(zip(a, b)). -/
namespace L2.NW
open PySem PySem.Spec PyProof.Rows LamX NdefX
section
variable {X : Cx} {κ : Cp} {W : WX} {e : Expr} {es : List Expr} {pos pn : Pos} {x : Str} {ts : AW} {i k k' : Nat}
end
theorem Cal.mgx {P : Program} {w : World} {K : PySem.W.Frag} {mg : Str → Option Value} {base : Heap} {p : Pt} {k n : Nat} {x : Str} {m : Mir} (c : Cal P w K mg base p k x n m) : ∃ f : Addr, mg x = some (.ref f) := let ⟨f, _, _, h, _⟩ := c.ex; ⟨f, h⟩
section
variable {X : Cx} {κ : Cp} {E : XK} {elt tg iter : Expr} {ifs : List Expr} {scope : Scope} {pos spos py : Pos} {ti : AW} {t : Tgt} {tt : BW} {te : EW} {vs : List Nat}
end
section
variable {X : Cx} {κ : Cp} {W : WX} {e : Expr} {es : List Expr} {pos pn : Pos} {x : Str} {ts : AW} {i k k' : Nat}
end
end L2.NW
end
section
set_option Elab.async false
set_option autoImplicit false
set_option linter.all false
set_option maxRecDepth 100000
set_option maxHeartbeats 2000000
/-! NzP: list(zip(a, b)), the sources lists or tuples. -/
namespace L2.NW
open PySem PySem.Spec PyProof.Rows
/-! ### a zip is asked on while the tuple that it gave out stands -/
section
variable {prog : Program} {w : World} {A : Around} {E : Value → Shared → Prop} {s : Shared} {z TI TO T i1 i2 : Addr} {fp1 fp2 : List Addr} {n1 n2 i : Nat} {P1 P2 : Nat → Value → Prop} {St1 St2 : Nat → Heap → Prop} {f : Bool} {oT : Obj}
end
/-! ### the loop that takes all of it into a new list -/
section
variable {X : Cx} {pins : List (Addr × Obj)} {σ : L2.St} {A : Around} {k1 k2 : Bool} {z TI TO i1 i2 a1 a2 S : Addr} {xs ys : List V} {J : Nat → Hp → Prop} {R : Result → Shared → Prop} {res : Value}
end
/-! ### list(zip) -/
section
variable {X : Cx} {pins : List (Addr × Obj)} {σ : L2.St} {s : Shared} {H : Hp} {A : Around} {k1 k2 : Bool} {z TI TO i1 i2 a1 a2 : Addr} {xs ys : List V} {Q : Value → Shared → Prop} {E : Value → Shared → Prop}
end
section
variable {X : Cx} {e f : Expr} {ta : TA} {p pos p2 pos2 : Pos}
end
section
variable {X : Cx} {κ : Cp} {W : WX} {e f : Expr} {pos pos2 p p2 : Pos} {ts : AW}
end
/-! ### == of tuples whose items may be the very same thing -/
section
variable {X : Cx} {κ : Cp} {W : WX} {a b : Expr} {pos : Pos} {ta tb : EW}
end
end L2.NW
end
section
set_option Elab.async false
set_option autoImplicit false
set_option linter.all false
set_option maxRecDepth 100000
set_option maxHeartbeats 2000000
/-! NzQ: x += [..] of a list of one's own. -/
namespace L2.NW
open PySem PySem.Spec PyProof.Rows
section
variable {X : Cx} {κ : Cp} {E : XK} {e : Expr} {pos npos : Pos} {ts : AW} {i : Nat} {x : Str}
end
end L2.NW
end
section
set_option Elab.async false
set_option autoImplicit false
set_option linter.all false
set_option maxRecDepth 100000
set_option maxHeartbeats 2000000
/-! NzS: defs within a def whose own names are kept by their own comprehensions. -/
namespace L2.NW
open PySem PySem.Spec PyProof.Rows NdefX LamX
/-! ### its cells -/
section
variable {M : Model} {A : Around} {E : Value → Shared → Prop} {s : Shared}
end
/-! ### its body -/
section
variable {CX : CXT} {P : Program} {w : World} {K : PySem.W.Frag} {mg : Str → Option Value} {base : Heap} {N ps fr : List Str} {F : NF} {f : Addr} {A : Around} {outer : List Env} {s s1 : Shared} {H : Hp} {E : XK} {us : List Value} {vs : List V} {ws : List (Option V)} {Q : VK} {k : Nat}
end
section
variable {X : Cx} {κ : Cp} {N ps fr : List Str} {js : List Nat} {j k : Nat}
end
end L2.NW
end
section
set_option Elab.async false
set_option autoImplicit false
set_option linter.all false
set_option maxRecDepth 100000
set_option maxHeartbeats 2000000
/-! NzT: the end of a law that shows values (repr): its def is entered right from the caller, in whose guards nothing stands. -/
namespace L2.NW
open PySem PySem.Spec PyProof.Rows LamX
/-- a def entered at one place: what its body does there is what the call does -/
theorem enter_at {CX : CXT} {P : Program} {w : World} {K : PySem.W.Frag} {mg : Str → Option Value} {base : Heap} {k : Nat} {f : Addr} {name qual : Str} {params : Arguments} {body : List Stmt} {scope : Scope} {dV kV doc pm cdv ct oc : Value} {an od : Option Addr} {osl : Array (Option Value)} {N ps : List Str}
    {A : Around} {outer : List Env} {s : Shared} {H : Hp} {args : Args} {us : List Value} {vs : List V} {Q : VK} {E : XK}
    (lk : K.lookup f = some ⟨oc, od, .func (PySem.W.fnOf name qual params body scope dV kV doc pm an cdv ct), osl⟩) (hcd : PySem.W.codeIn K cdv qual = true) (S : FnScope N ps scope)
    (room : Room (k + 1) A) (env : Env0 P w K mg base A outer s H) (binds : BindsTo s (PySem.W.fnOf name qual params body scope dV kV doc pm an cdv ct) args (ps.zip us)) (rel : Vals vs us) (len : vs.length = ps.length)
    (does : ∃ t, PSs (cxOf CX P w K mg base N qual scope f cdv A outer s H E) body t ∧ t { nx := fun _ H' => Q .non H', rt := Q } (L2.start N vs) H) :
    codeAny (model P w) A (.call (.ref f) args) (CR CX outer P w H s Q E) s := by
  have now : ∀ b o, base.get? b = some o → s.heap.get? b = some o := fun b o e => (env.bs b o e).1
  have kin := env.mod.kin.keeps now
  refine codeAny_call_function room.depth (kin _ _ lk) rfl S.co S.gen rfl (PySem.W.codeRec_of kin hcd) (binds _ _ _ _ (wpAny_newFunctionEnv_cells S.kind (fun y hy => (S.par y.1 (List.of_mem_zip (a := y.1) (b := y.2) hy).1).imp_right fun c => ⟨c, PySem.W.cellsFrom_some _ _ _ (.inl c)⟩) fun fr hfr s1 made => ?_))
  cases hfr
  obtain ⟨t, runs, wish⟩ := does
  exact ⟨(env.mod.nolimit.keeps now).keeps made.toInCall.keep, codeAny_func (wpAny_mono (runs.run [] s1 _ H _ (inv_start S room.hd env len rel made) wish) (fun fl s' z => match fl, z with
    | .ret _, ⟨v, _, G, J, rv, q⟩ => ⟨v, G, J.os, J.bare, J.base, J.hok, rv, q⟩
    | .next, ⟨_, G, J, q⟩ => ⟨.non, G, J.os, J.bare, J.base, J.hok, rfl, q⟩
    | .brk, ⟨_, _, _, q⟩ => False.elim q
    | .cont, ⟨_, _, _, q⟩ => False.elim q) fun _ _ z => z)⟩
/-! ### what is tracked when a law begins: the defs' tables, and the script if the head does not know it -/
abbrev noCodes : Obj := { cls := .none, data := .fields #[] }
structure Begun (K : PySem.W.Frag) (a : Addr) (o : Obj) (xs : List V) (T : List Addr) (H : Hp) : Prop where
  tabs : ∀ b ∈ T, H b = some (.tbl #[])
  only : ∀ b u, H b = some u → (b ∈ T ∧ u = .tbl #[]) ∨ (b = a ∧ u = .frz o (.lst xs))
  known : ∀ b o', K.lookup b = some o' → b ∉ T → H b = none
  script : K.lookup a = none → H a = some (.frz o (.lst xs))
theorem begun_ex (K : PySem.W.Frag) {a : Addr} (o : Obj) (xs : List V) {T : List Addr} (ha : a ∉ T) : ∃ H, Begun K a o xs T H := by
  let H : Hp := fun b => if b ∈ T then some (.tbl #[]) else if b = a ∧ (K.lookup b).isNone = true then some (.frz o (.lst xs)) else none
  refine ⟨H, fun b hb => if_pos hb, fun b u e => ?_, fun b o' e hb => ?_, fun e => ?_⟩
  · by_cases hb : b ∈ T
    · exact .inl ⟨hb, (Option.some.inj ((if_pos hb).symm.trans e)).symm⟩
    · have e := (if_neg hb).symm.trans e
      by_cases hc : b = a ∧ (K.lookup b).isNone = true
      · exact .inr ⟨hc.1, (Option.some.inj ((if_pos hc).symm.trans e)).symm⟩
      · cases (if_neg hc).symm.trans e
  · exact (if_neg hb).trans (if_neg fun z => by rw [e] at z; exact absurd z.2 (by simp))
  · exact (if_neg ha).trans (if_pos ⟨rfl, by rw [e]; rfl⟩)
section
variable {P : Program} {w : World} {K : PySem.W.Frag} {a : Addr} {vs : List Value} {ns : List Int} {T : List Addr} {H : Hp} {h : Heap}
abbrev scriptObj (vs : List Value) : Obj := { cls := .type "list", data := .seq vs.toArray }
theorem Begun.hok (B : Begun K a (scriptObj vs) (ns.map V.int) T H) (tb : ∀ b ∈ T, h.get? b = some noCodes) (sc : h.get? a = some (scriptObj vs)) (its : IntsAre vs ns) (hl : ns.length ≤ sizeLine) : HOk P w H h := fun b u e => by
  rcases B.only b u e with ⟨hb, rfl⟩ | ⟨rfl, rfl⟩
  · exact tb b hb
  · exact ⟨sc, by rw [List.length_map]; exact hl, vs, _, vals_ints its, sc⟩
theorem Begun.sq (B : Begun K a (scriptObj vs) (ns.map V.int) T H) (KX : K.In h) (sc : h.get? a = some (scriptObj vs)) (its : IntsAre vs ns) (hl : ns.length ≤ sizeLine) : SqL K H a (ns.map V.int) := by
  cases e : K.lookup a with
  | none => exact .inl (.inr ⟨_, B.script e⟩)
  | some o =>
    have z := KX a o e
    rw [sc] at z
    cases z
    exact .inr ⟨_, vs.toArray, _, e, rfl, rfl, rfl, by rw [List.size_toArray, its.length]; exact hl, vals_ints its⟩
/-- what is neither a list nor an empty table is not tracked -/
theorem Begun.un (B : Begun K a (scriptObj vs) (ns.map V.int) T H) (tb : ∀ b ∈ T, h.get? b = some noCodes) (sc : h.get? a = some (scriptObj vs)) {b : Addr} {o : Obj} (e : h.get? b = some o)
    (d : match o.data with | .seq _ _ => False | .fields us => us ≠ #[] | _ => True) : (hidT h H).get? b = some o := by
  refine hidT_get e ?_
  cases q : H b with
  | none => rfl
  | some u =>
    rcases B.only b u q with ⟨hb, _⟩ | ⟨hb, _⟩
    · cases e.symm.trans (tb b hb)
      exact absurd rfl d
    · subst hb
      cases e.symm.trans sc
      exact d.elim
theorem Begun.nsp (B : Begun K a (scriptObj vs) (ns.map V.int) T H) (tb : ∀ b ∈ T, h.get? b = some noCodes) (sc : h.get? a = some (scriptObj vs)) {b : Addr} {m : Str → Option Value} (n : h.Ns b m) : (hidT h H).Ns b m :=
  let ⟨o, es, ep, e, d, r⟩ := n; ⟨o, es, ep, B.un tb sc e (by rw [d]; trivial), d, r⟩
/-- what a call that began so has left of the heap -/
theorem Begun.left (B : Begun K a (scriptObj vs) (ns.map V.int) T H) (ht : ∀ b ∈ T, isCodeTable h b) (tb : ∀ b ∈ T, h.get? b = some noCodes) (sc : h.get? a = some (scriptObj vs)) {G : Hp} {h' : Heap} (u : Un [] [] H G h h') (ok : HOk P w G h') : OldK h h' := by
  have all : ∀ b o, h.get? b = some o → h'.get? b = some o ∨ (isCodeTable h b ∧ o = noCodes ∧ ∃ more : Array Value, h'.get? b = some { cls := .none, data := .fields more }) := fun b o e => by
    cases q : H b with
    | none => exact .inl (u.keep b o e q List.not_mem_nil List.not_mem_nil)
    | some t =>
      rcases B.only b t q with ⟨hb, rfl⟩ | ⟨rfl, rfl⟩
      · obtain ⟨more, m⟩ := u.tbls b _ q
        exact .inr ⟨ht b hb, (Option.some.inj ((tb b hb).symm.trans e)).symm, _, ok b _ m⟩
      · cases e.symm.trans sc
        exact .inl (ok b _ (u.frzs b _ _ q)).1
  exact ⟨fun b o e => (all b o e).elim .inl fun ⟨c, d, more, m⟩ => .inr (.inl ⟨c, by rw [d], #[], more, by rw [d], by rw [d, Array.empty_append]; exact m⟩), fun b o e => (all b o e).elim (fun m => ⟨o, m⟩) fun ⟨_, _, _, m⟩ => ⟨_, m⟩⟩
/-- a law's def at the caller: what it must do -/
def RunG (P : Program) (w : World) (K : PySem.W.Frag) (mg : Str → Option Value) (base : Heap) (CX : CXT) (k : Nat) (f : Addr) (fd : FuncData) (ps : List Str) (sp : Sp) : Prop :=
  ∀ (A : Around) (s : Shared) (H : Hp) (args : Args) (us : List Value) (vs : List V) (Q : VK) (E : XK), A.guards = some [] → Room k A → Env0 P w K mg base A [] s H → BindsTo s fd args (ps.zip us) → Vals vs us → sp vs H Q E → codeAny (model P w) A (.call (.ref f) args) (CR CX [] P w H s Q E) s
/-- a law with tables that keeps the caller's guards -/
def LawAtG (l : PySem.W.OpenLaw) (w : World) (K : PySem.W.Frag) (CX : CXT) (k n : Nat) (x : Str) (mg : Str → Option Value) (fa : Addr) (h : Heap) : Prop :=
  ∃ (fd : FuncData) (cs : List (Addr × Addr)) (sp : Sp), (∀ p ∈ cs, h.get? p.2 = some noCodes ∧ K.lookup p.2 = none ∧ PySem.W.CodeHd h p.1 p.2) ∧ (∀ (s : Shared) (u : Value), BindsTo s fd ⟨[u], []⟩ [(x, u)]) ∧
    (∀ (H : Hp) (a : Addr) (ns : List Int), ns.length ≤ n → (∀ p ∈ cs, H p.2 = some (.tbl #[])) → SqL K H a (ns.map V.int) → sp [.ref a] H (fun v _ => v = .bl true) fun _ _ _ => False) ∧
    ∀ base : Heap, K.In base → base.Ns mainGlobals mg → (∀ p ∈ cs, TabB base mg p.1 p.2) → RunG l.prog w K mg base CX k fa fd [x] sp
theorem walk_ofG {l : PySem.W.OpenLaw} {n k : Nat} {q : Program} {loose : List Str} {XP : (Str → Option Value) → Heap → Prop} {YP : World → Heap → Prop} {d : DefRec} {K : Params → PySem.W.Frag} {CX : World → CXT} {x : Str}
    (hn : l.most = some n) (hn2 : n ≤ sizeLine) (hdf : d.params.defaults = []) (hr : Room k callerA) (hY : ∀ (w : World) (h : Heap), YP w h → (K w.params).In h)
    (F : ∀ (w : World) (mg : Str → Option Value) (fa : Addr) (h : Heap), YP w h → (K w.params).In h → h.Ns mainGlobals mg → mg d.name = some (.ref fa) → TabsAt q (K w.params) mg h → LawAtG l w (K w.params) (CX w) k n x mg fa h)
    (hCX : ∀ (w : World) (H : Hp) (s : Shared) (e : Value) (s' : Shared), CX w [] H s (fun _ _ _ => False) e s' → False) :
    PySem.W.WalkO q loose XP YP l.row.toRowW d [] (fun f vs => PySem.call f vs) := by
  refine Att.attach_callB hn hdf fun w s₀ s₁ mg mb fa o pm cd doc a vs ns G Y ho hd hcd hmg sc its hlen hbits hg => ?_
  have KX := hY w _ Y
  have hl := Nat.le_trans hlen hn2
  have own : TabsAt q (K w.params) mg s₁.heap := fun y f hy hmy c P o1 fd1 e dd vs1 sl k1 k2 k3 k4 k5 => by
    have ⟨r, hr, er⟩ := List.any_eq_true.mp hy
    have er : r.name = y := by simpa using er
    have at1 := KX _ _ k1
    have at2 := KX _ _ k4
    have ⟨_, _, _, _, _, t1, t2, t3, t4, _, ⟨_, _, t6, _, t7, t8⟩, t9⟩ := G.T.tab r hr
    subst er
    simp_all
    subst t6
    cases t7
    simp_all
  obtain ⟨fd, cs, sp, at_, hb, hsp, hF⟩ := F w mg fa _ Y KX G.T.g hmg own
  have tb : ∀ b ∈ cs.map (·.2), s₁.heap.get? b = some noCodes := fun b hb => by
    obtain ⟨p, hp, rfl⟩ := List.mem_map.mp hb
    exact (at_ p hp).1
  have aT : a ∉ cs.map (·.2) := fun z => by cases (tb a z).symm.trans sc
  obtain ⟨H, B⟩ := begun_ex (K w.params) (scriptObj vs) (ns.map V.int) aT
  have mem : ∀ p ∈ cs, p.2 ∈ cs.map (·.2) := fun p hp => List.mem_map_of_mem hp
  have hok : HOk l.prog w H s₁.heap := B.hok tb sc its hl
  have kin : (K w.params).In (hidT s₁.heap H) := fun b o e => hidT_get (KX b o e) (B.known b o e fun hm => by
    obtain ⟨p, hp, rfl⟩ := List.mem_map.mp hm
    cases (at_ p hp).2.1.symm.trans e)
  have ns : ∀ {b : Addr} {m : Str → Option Value}, s₁.heap.Ns b m → (hidT s₁.heap H).Ns b m := B.nsp tb sc
  have mod : L2.Mod (K w.params) mg (hidT s₁.heap H) := ⟨kin, ns G.T.g, ⟨mb, ns G.T.b, G.T.builtins⟩, G.T.nolimit.imp fun _ z => ⟨ns z.1, z.2⟩⟩
  have tabs : ∀ p ∈ cs, TabB (hidT s₁.heap H) mg p.1 p.2 := fun p hp => by
    obtain ⟨t1, _, ⟨oc, us, file, tf, fl, tg, inF, text, tt, e, cl, dt, at11, more⟩⟩ := at_ p hp
    refine ⟨⟨oc, us, file, tf, fl, tg, inF, text, tt, B.un tb sc e (by rw [dt]; intro z; rw [z] at at11; cases at11), cl, dt, at11, more⟩, ?_, fun z => ?_⟩
    · obtain ⟨bm, ob, b1, b2, e, b4, b5, b6⟩ := G.T.bmain
      refine ⟨bm, ob, b1, b2, fun z => ?_, fun z => ?_, B.un tb sc e (by rw [b6]; trivial), b4, b5, b6⟩
      · obtain ⟨o, es, ep, e', d', _⟩ := G.T.g
        rw [z, e'] at e
        cases e
        rw [d'] at b6
        cases b6
      · rw [z, t1] at e
        cases e
        cases b6
    · obtain ⟨o, es, ep, e', d', _⟩ := G.T.g
      rw [z, t1] at e'
      cases e'
      cases d'
  have env : Env0 l.prog w (K w.params) mg (hidT s₁.heap H) callerA [] s₁ H := ⟨rfl, mod, fun b o e => of_hidT e, Nat.le_of_eq (hidT_size _ _), trivial, fun b z => absurd z List.not_mem_nil, hok, .of_eq hg⟩
  refine codeAny_mono (hF _ kin (ns G.T.g) tabs callerA s₁ H ⟨[.ref a], []⟩ [.ref a] [.ref a] _ _ rfl hr env (hb s₁ (.ref a)) (.cons rfl .nil) (hsp H a _ hlen (fun p hp => B.tabs _ (mem p hp)) (B.sq KX sc its hl))) fun r s' z => ?_
  match r, z with
  | .error e, z => exact (hCX w H s₁ e s' z).elim
  | .ok .next, z | .ok .brk, z | .ok .cont, z => exact False.elim z
  | .ok (.ret u), ⟨v, G', os, bare, un, ok, rv, q⟩ =>
    subst q
    cases show u = Value.bool true from rv
    exact ⟨rfl, B.left (fun b hb => by
      obtain ⟨p, hp, rfl⟩ := List.mem_map.mp hb
      exact ((at_ p hp).2.2.tab (at_ p hp).1).isCodeTable) tb sc un ok, os, bare⟩
end
end L2.NW
end
section
set_option Elab.async false
set_option autoImplicit false
set_option linter.all false
set_option maxRecDepth 100000
set_option maxHeartbeats 400000
/-! the defs of this law, and what each is worth: printed by gen.py -/
namespace K24
open PySem PySem.Spec PyProof.Rows L2 L2.NW LamX NdefX
def top (i : Nat) : Stmt := PySem.Challenge.pw_numberwall_k24_whole_lots_of_weights.main.body.getD i (.Pass ⟨0, 0, 0, 0⟩)
abbrev csF : List Str := ["Lot"]
abbrev eX : List Str := ["BadLot", "BadNumber"]
def Fw : Str → Str → Option Bool := fun x c => if x ∈ eX ∧ c ∈ eX then some (x == c) else none
structure Txt (P : Program) (K : PySem.W.Frag) (mg : Str → Option Value) (base : Heap) : Prop where
  d_law_pick : DefOk K mg "_law_pick" (top 32) ["pen", "row"]
  d_is_integer : DefOk K mg "is_integer" (top 7) ["value"]
  d_is_count : DefOk K mg "is_count" (top 8) ["value"]
  d_need_count : DefOk K mg "need_count" (top 11) ["what", "value"]
  d_as_told : DefOk K mg "as_told" (top 5) ["value"]
  d_is_row : DefOk K mg "is_row" (top 10) ["value"]
  d_is_below : DefOk K mg "is_below" (top 9) ["value", "bound"]
  d_are_states : DefOk K mg "are_states" (top 13) ["value", "many", "states"]
  c_Lot : ClsOk K mg "Lot" "Lot.__init__" (inClass (top 14) 0) ["self", "counters", "moves", "good", "begins"]
  d_explored_lots : DefOkY K mg "explored_lots" "explored" (top 15) ["counters", "begins", "go", "is_good"]
  d_parted : DefOk K mg "parted" (top 17) ["lot"]
  d_column_weight : DefOk K mg "column_weight" (top 20) ["y", "column"]
  d_explored_weights : DefOkY K mg "explored_weights" "explored" (top 21) ["y", "begins", "go", "is_good"]
  d_rest : DefOk K mg "rest" (top 26) ["value", "n"]
  d_halved_like : DefOk K mg "halved_like" (top 27) ["value", "weight"]
  d_law_plain_lot : DefOk K mg "_law_plain_lot" (top 36) ["lot"]
  d_law_rows_below : DefOk K mg "_law_rows_below" (top 37) ["counters", "most"]
  d_law_is_least : DefOk K mg "_law_is_least" (top 39) ["lot"]
  d_law_places : DefOk K mg "_law_places" (top 34) ["row"]
  d_law_column : DefOk K mg "_law_column" (top 33) ["row", "place"]
  d_law_is_in : DefOk K mg "_law_is_in" (top 35) ["lot", "configuration"]
  d_law_weight : DefOk K mg "_law_weight" (top 38) ["y", "v", "configuration"]
  d_law_fits : DefOk K mg "_law_fits" (top 40) ["pen", "told", "y", "v", "is_due"]
  d_halved : DefOk K mg "halved" (top 23) ["value", "weight"]
  o_Lot : InsOk K mg "Lot"
  q_Lot : MetOk K mg "Lot" "__eq__" "Lot.__eq__" (inClass (top 14) 1) ["self", "other"]
  d_law_draw : DefOk K mg "_law_draw" (top 31) ["pen", "many"]
  e_BadLot : ErrOk P K mg "BadLot" ["lot"]
  e_BadNumber : ErrOk P K mg "BadNumber" ["what", "number"]
  k_BadNumber : CsOk K mg Fw ⟨"BadNumber", "", ["what", "number"]⟩
  fo : FOk K mg Fw
  b_set : mg "set" = none
  b_repr : mg "repr" = none
  b_sorted : mg "sorted" = none
  b_len : mg "len" = none
  b_tuple : mg "tuple" = none
  b_list : mg "list" = none
  b_int : mg "int" = none
  b_bool : mg "bool" = none
  b_all : mg "all" = none
  b_any : mg "any" = none
  b_sum : mg "sum" = none
  b_range : mg "range" = none
  b_enumerate : mg "enumerate" = none
  b_zip : mg "zip" = none
  b_isinstance : mg "isinstance" = none
  f_begins : FldF K mg csF "begins"
  f_counters : FldF K mg csF "counters"
  f_good : FldF K mg csF "good"
  f_moves : FldF K mg csF "moves"

def nm_least : Nat → Nat → Str := fun l c => if l == 96 && c == 4 then "least.<locals>.go" else "least.<locals>.<lambda>"
def nm_weights_like : Nat → Nat → Str := fun l c => "weights_like.<locals>.<lambda>"
def nm_weights_equal : Nat → Nat → Str := fun l c => "weights_equal.<locals>.<lambda>"
def nm_weights_below : Nat → Nat → Str := fun l c => "weights_below.<locals>.<lambda>"
def nm_law : Nat → Nat → Str := fun l c => "law.<locals>.<lambda>"
structure TxtL (K : PySem.W.Frag) (mg : Str → Option Value) (base : Heap) (T : List NdefX.NTab) (c0 P0 c1 P1 c2 P2 c3 P3 c4 P4 : Addr) : Prop where
  t_least : TabM K mg base T "least" (top 18) ["lot"] c0 P0 nm_least
  t_weights_like : TabM K mg base T "weights_like" (top 28) ["y", "v", "n", "c"] c1 P1 nm_weights_like
  t_weights_equal : TabM K mg base T "weights_equal" (top 24) ["y", "v", "c"] c2 P2 nm_weights_equal
  t_weights_below : TabM K mg base T "weights_below" (top 25) ["y", "v", "c"] c3 P3 nm_weights_below
  t_law : TabM K mg base T "law" (top 41) ["script"] c4 P4 nm_law
section
variable {P : Program} {w : World} {K : PySem.W.Frag} {mg : Str → Option Value} {base : Heap} {p : Pt}
/-! _law_draw -/
abbrev st_law_draw : Stmt := top 31
theorem sc_law_draw : FnScope nDraw ["pen", "many"] (defScope st_law_draw) := ⟨rfl, rfl, rfl, by decide +kernel, rfl, by decide +kernel, by decide +kernel⟩
theorem cal_law_draw (T : Txt P K mg base) : Cal P w K mg base p 2 "_law_draw" 2 drawM :=
  T.d_law_draw.elim fun f h => h.elim fun fd ⟨hm, F, hb⟩ => cal_draw (k := 1) hm F sc_law_draw hb fun cdv A outer s H E hr => by
    have hu : (A.deeper (envOfC "_law_draw" (defScope st_law_draw) s.heap.objs.size f cdv)).units + 1 < cLine := hu_of hr
    exact (pss_cons (ps_dput hu (pv 0) pe_str (pe_op op_add (pe_dget hu (pv 0) pe_str (fun _ _ => rfl)) pe_int) rfl)
      (pss_cons (ps_if (PW.pt (pw_and (pt_cmpR op_eq (pe_dget hu (pv 0) pe_str (fun _ _ => rfl)) pe_int (nomark _)) (pw_and1 (pt_cmpR op_lt (pe_dget hu (pv 0) pe_str (fun _ _ => rfl)) (pe_callB call_len_seq (by rfl) T.b_len (by decide +kernel) (pa_cons (pe_dget hu (pv 0) pe_str (fun _ _ => rfl)) pa_nil)) (nomark _)))))
        (pss_cons (ps_set (i := 2) sc_law_draw.nd rfl (Or.inl rfl) (pe_ix ix_list (pe_dget hu (pv 0) pe_str (fun _ _ => rfl)) (pe_dget hu (pv 0) pe_str (fun _ _ => rfl)) (fun _ _ => rfl)))
          (pss_cons (ps_dput hu (pv 0) pe_str (pe_op op_add (pe_dget hu (pv 0) pe_str (fun _ _ => rfl)) pe_int) rfl)
          (pss_one (ps_if (pt_cmpR op_ge (pv 2) (pe_op op_pow pe_int pe_int) (nomark _)) (pss_one (ps_dput hu (pv 0) pe_str (pe_op op_sub (pv 2) (pe_op op_pow pe_int pe_int)) rfl))
            (pss_one (ps_dput hu (pv 0) pe_str (pe_op op_mod (pe_callTy call_int1 (by rfl) T.b_int (by decide +kernel) (pa_cons (pe_op op_add (pe_op op_mul (pe_dget hu (pv 0) pe_str (fun _ _ => rfl)) pe_int) (pv 2)) pa_nil)) pe_int) rfl)))))) pss_nil)
      (pss_cons (ps_if (pt_cmpR op_gt (pe_dget hu (pv 0) pe_str (fun _ _ => rfl)) pe_int (nomark _))
        (pss_cons (ps_set (i := 3) sc_law_draw.nd rfl (Or.inl rfl) (pe_op op_mod (pe_callTy call_int1 (by rfl) T.b_int (by decide +kernel) (pa_cons (pe_dget hu (pv 0) pe_str (fun _ _ => rfl)) pa_nil)) (pv 1))) (pss_cons (ps_dput hu (pv 0) pe_str (pe_op op_fdiv (pe_dget hu (pv 0) pe_str (fun _ _ => rfl)) (pv 1)) rfl) (pss_one (ps_ret (pv 3))))) pss_nil)
      (pss_cons (ps_set (i := 4) sc_law_draw.nd rfl (Or.inl rfl) (pe_op op_add (pe_op op_add (pe_dget hu (pv 0) pe_str (fun _ _ => rfl)) (pe_op op_mul (pe_dget hu (pv 0) pe_str (fun _ _ => rfl)) pe_int)) pe_int))
      (pss_one (ps_ret (pe_op op_mod (pe_op op_fdiv (pe_callTy call_int1 (by rfl) T.b_int (by decide +kernel) (pa_cons (pe_op op_mod (pe_op op_pow (pv 4) pe_int) pe_int) pa_nil)) pe_int) (pv 1))))))))

/-! _law_pick -/
abbrev st_law_pick : Stmt := top 32
abbrev N_law_pick : List Str := ["pen", "row"]
theorem sc_law_pick : FnScope N_law_pick ["pen", "row"] (defScope st_law_pick) := ⟨rfl, rfl, rfl, by decide +kernel, rfl, by decide +kernel, by decide +kernel⟩
def t_law_pick : SW := (sRet (e2 ixD (eVar 1) (eCall 2 drawM (aC (eVar 0) (aC (eBI lenD (aC (eVar 1) aN)) aN)))))
def m_law_pick : Mir := bodyD 2 t_law_pick
theorem cal_law_pick (T : Txt P K mg base) : Cal P w K mg base p 3 "_law_pick" 2 m_law_pick :=
  cal_by T.d_law_pick sc_law_pick rfl fun f κ cdv A outer s H E hp hr => by
    subst hp
    exact (dss_one (ds_ret (de_at (de_var (pv 1)) (de_call (cal_law_draw T) hr (by decide) rfl (takes_of rfl rfl rfl rfl) (da_cons (de_var (pv 0)) (da_cons (de_len (by rfl) T.b_len (da_cons (de_var (pv 1)) da_nil)) da_nil))))))

/-! is_integer -/
abbrev st_is_integer : Stmt := top 7
abbrev N_is_integer : List Str := ["value"]
theorem sc_is_integer : FnScope N_is_integer ["value"] (defScope st_is_integer) := ⟨rfl, rfl, rfl, by decide +kernel, rfl, by decide +kernel, by decide +kernel⟩
def t_is_integer : SW := (sRet (eAnd (e1 (isiD ["int"]) (eVar 0)) (eNot (e1 (isiD ["bool"]) (eVar 0)))))
def m_is_integer : Mir := bodyD 1 t_is_integer
theorem cal_is_integer (T : Txt P K mg base) : Cal P w K mg base p 2 "is_integer" 1 m_is_integer :=
  cal_by T.d_is_integer sc_is_integer rfl fun f κ cdv A outer s H E hp hr => by
    subst hp
    exact (dss_one (ds_ret (de_and (de_isi (by rfl) T.b_isinstance (de_var (pv 0)) (pe_tyn (by rfl) T.b_int (by decide +kernel)) (by decide +kernel)) (de_one (de_not (de_isi (by rfl) T.b_isinstance (de_var (pv 0)) (pe_tyn (by rfl) T.b_bool (by decide +kernel)) (by decide +kernel)))))))

/-! is_count -/
abbrev st_is_count : Stmt := top 8
abbrev N_is_count : List Str := ["value"]
theorem sc_is_count : FnScope N_is_count ["value"] (defScope st_is_count) := ⟨rfl, rfl, rfl, by decide +kernel, rfl, by decide +kernel, by decide +kernel⟩
def t_is_count : SW := (sRet (eAnd (eCall 1 m_is_integer (aC (eVar 0) aN)) (e2 geD (eVar 0) (eC (.int 0)))))
def m_is_count : Mir := bodyD 1 t_is_count
theorem cal_is_count (T : Txt P K mg base) : Cal P w K mg base p 3 "is_count" 1 m_is_count :=
  cal_by T.d_is_count sc_is_count rfl fun f κ cdv A outer s H E hp hr => by
    subst hp
    exact (dss_one (ds_ret (de_and (de_call (cal_is_integer T) hr (by decide) (by rfl) (takes_of rfl rfl rfl rfl) (da_cons (de_var (pv 0)) da_nil)) (de_one (de_ge (de_var (pv 0)) de_int)))))

/-! need_count -/
abbrev st_need_count : Stmt := top 11
abbrev N_need_count : List Str := ["what", "value"]
theorem sc_need_count : FnScope N_need_count ["what", "value"] (defScope st_need_count) := ⟨rfl, rfl, rfl, by decide +kernel, rfl, by decide +kernel, by decide +kernel⟩
def t_need_count : SW := (sIf (bNot (bV (eCall 1 m_is_count (aC (eVar 1) aN)))) (sRaise "BadNumber" ["what", "number"] (aC (eVar 0) (aC (eVar 1) aN))) sNext)
def m_need_count : Mir := bodyD 2 t_need_count
theorem cal_need_count (T : Txt P K mg base) : Cal P w K mg base p 4 "need_count" 2 m_need_count :=
  cal_by T.d_need_count sc_need_count rfl fun f κ cdv A outer s H E hp hr => by
    subst hp
    exact (dss_one (ds_if (dt_not (dt_val (de_call (cal_is_count T) hr (by decide) (by rfl) (takes_of rfl rfl rfl rfl) (da_cons (de_var (pv 1)) da_nil)))) (dss_one (T.e_BadNumber.elim fun _ h => h.elim fun _ h => ds_raise (k := 0) rfl (takes_of rfl rfl rfl rfl) h (hr.mono (by decide)) rfl (da_cons (de_var (pv 0)) (da_cons (de_var (pv 1)) da_nil)))) dss_nil))

/-! as_told -/
abbrev st_as_told : Stmt := top 5
abbrev N_as_told : List Str := ["value", "part"]
theorem sc_as_told : FnScope N_as_told ["value"] (defScope st_as_told) := ⟨rfl, rfl, rfl, by decide +kernel, rfl, by decide +kernel, by decide +kernel⟩
def t_as_told (mr : Mir) : SW := (sSeq (sIf (bV (e1 (isiD ["list", "tuple"]) (eVar 0))) (sRet (eBI tupL (eLc (iSeq' (eVar 0)) (.nm 1) bT (eCall 1 mr (aC (eVar 1) aN)) [1]))) sNext)
    (sRet (eVar 0)))
def mr_as_told : Nat → Mir
  | 0 => fun _ => WP.bad
  | n + 1 => bodyD 2 (t_as_told (mr_as_told n))
abbrev m_as_told : Mir := mr_as_told 8
theorem calr_as_told (T : Txt P K mg base) : ∀ n : Nat, Cal P w K mg base p (1 + n) "as_told" 1 (mr_as_told n)
  | 0 => cal_bad T.d_as_told sc_as_told rfl
  | n + 1 => cal_by T.d_as_told sc_as_told rfl fun f κ cdv A outer s H E hp hr => by
    have ih : Cal P w K mg base p (1 + n) "as_told" 1 (mr_as_told n) := calr_as_told T n
    subst hp
    exact (dss_cons (ds_if (dt_val (de_isi2 (by rfl) T.b_isinstance (de_var (pv 0)) (pe_tyn (by rfl) T.b_list (by decide +kernel)) (pe_tyn (by rfl) T.b_tuple (by decide +kernel)) (by decide +kernel) (by decide +kernel))) (dss_one (ds_ret (de_tupL (by rfl) T.b_tuple (dl_lcv [("part", 1)] rfl rfl sc_as_told.nd (di_seq (de_var (pv 0))) (blkOk_by (N := N_as_told) (sc := defScope st_as_told) (by decide +kernel)) (fun _ _ _ _ _ => by exact (pg_nm (i := 1) sc_as_told.nd rfl (by first | exact .inl rfl | exact .inr rfl))) (fun _ _ _ _ _ => by exact dts_nil) (fun _ _ _ _ _ => by exact (de_call ih hr (Nat.le_refl _) rfl LamX.takes0 (da_cons (de_var (pv 1)) da_nil))) (by decide))))) dss_nil)
    (dss_one (ds_ret (de_var (pv 0)))))
theorem cal_as_told (T : Txt P K mg base) : Cal P w K mg base p 9 "as_told" 1 m_as_told := calr_as_told T 8

/-! is_row -/
abbrev st_is_row : Stmt := top 10
abbrev N_is_row : List Str := ["value"]
theorem sc_is_row : FnScope N_is_row ["value"] (defScope st_is_row) := ⟨rfl, rfl, rfl, by decide +kernel, rfl, by decide +kernel, by decide +kernel⟩
def t_is_row : SW := (sRet (e1 (isiD ["tuple", "list"]) (eVar 0)))
def m_is_row : Mir := bodyD 1 t_is_row
theorem cal_is_row (T : Txt P K mg base) : Cal P w K mg base p 2 "is_row" 1 m_is_row :=
  cal_by T.d_is_row sc_is_row rfl fun f κ cdv A outer s H E hp hr => by
    subst hp
    exact (dss_one (ds_ret (de_isi2 (by rfl) T.b_isinstance (de_var (pv 0)) (pe_tyn (by rfl) T.b_tuple (by decide +kernel)) (pe_tyn (by rfl) T.b_list (by decide +kernel)) (by decide +kernel) (by decide +kernel))))

/-! is_below -/
abbrev st_is_below : Stmt := top 9
abbrev N_is_below : List Str := ["value", "bound"]
theorem sc_is_below : FnScope N_is_below ["value", "bound"] (defScope st_is_below) := ⟨rfl, rfl, rfl, by decide +kernel, rfl, by decide +kernel, by decide +kernel⟩
def t_is_below : SW := (sRet (eAnd (eCall 1 m_is_count (aC (eVar 0) aN)) (e2 ltD (eVar 0) (eVar 1))))
def m_is_below : Mir := bodyD 2 t_is_below
theorem cal_is_below (T : Txt P K mg base) : Cal P w K mg base p 4 "is_below" 2 m_is_below :=
  cal_by T.d_is_below sc_is_below rfl fun f κ cdv A outer s H E hp hr => by
    subst hp
    exact (dss_one (ds_ret (de_and (de_call (cal_is_count T) hr (by decide) (by rfl) (takes_of rfl rfl rfl rfl) (da_cons (de_var (pv 0)) da_nil)) (de_one (de_lt (de_var (pv 0)) (de_var (pv 1)))))))

/-! are_states -/
abbrev st_are_states : Stmt := top 13
abbrev N_are_states : List Str := ["value", "many", "states", "state"]
theorem sc_are_states : FnScope N_are_states ["value", "many", "states"] (defScope st_are_states) := ⟨rfl, rfl, rfl, by decide +kernel, rfl, by decide +kernel, by decide +kernel⟩
def t_are_states : SW := (sRet (eAnd (eCall 1 m_is_row (aC (eVar 0) aN)) (eAnd (e2 eqD (eBI lenD (aC (eVar 0) aN)) (eVar 1)) (eBI allD (eLc (iSeq' (eVar 0)) (.nm 3) bT (eCall 2 m_is_below (aC (eVar 3) (aC (eVar 2) aN))) [3])))))
def m_are_states : Mir := bodyD 4 t_are_states
theorem cal_are_states (T : Txt P K mg base) : Cal P w K mg base p 5 "are_states" 3 m_are_states :=
  cal_by T.d_are_states sc_are_states rfl fun f κ cdv A outer s H E hp hr => by
    subst hp
    exact (dss_one (ds_ret (de_and (de_call (cal_is_row T) hr (by decide) (by rfl) (takes_of rfl rfl rfl rfl) (da_cons (de_var (pv 0)) da_nil)) (de_and (de_eq (hu64 hr) (de_len (by rfl) T.b_len (da_cons (de_var (pv 0)) da_nil)) (de_var (pv 1))) (de_one (de_all rfl (by rfl) T.b_all (dl_lcv [("state", 3)] rfl rfl sc_are_states.nd (di_seq (de_var (pv 0))) (blkOk_by (N := N_are_states) (sc := defScope st_are_states) (by decide +kernel)) (fun _ _ _ _ _ => by exact (pg_nm (i := 3) sc_are_states.nd rfl (by first | exact .inl rfl | exact .inr rfl))) (fun _ _ _ _ _ => by exact dts_nil) (fun _ _ _ _ _ => by exact (de_call (cal_is_below T) hr (by decide) (by rfl) LamX.takes0 (da_cons (de_var (pv 3)) (da_cons (de_var (pv 2)) da_nil)))) (by decide))))))))

/-! __init__ -/
abbrev st_mk_Lot : Stmt := inClass (top 14) 0
abbrev N_mk_Lot : List Str := ["self", "counters", "moves", "good", "begins", "states", "line", "truth", "state"]
theorem sc_mk_Lot : FnScope N_mk_Lot ["self", "counters", "moves", "good", "begins"] (defScope st_mk_Lot) := ⟨rfl, rfl, rfl, by decide +kernel, rfl, by decide +kernel, by decide +kernel⟩
def t_mk_Lot : SW := (sSeq (sExpr (eCall 2 m_need_count (aC (eC (.str "counters")) (aC (eVar 1) aN))))
    (sSeq (sIf (bOr (bNot (bV (eCall 1 m_is_row (aC (eVar 2) aN)))) (bC eqD (eBI lenD (aC (eVar 2) aN)) (eC (.int 0)))) (sRaise "BadLot" ["lot"] (aC (eVar 2) aN)) sNext)
    (sSeq (sSet 5 (eBI lenD (aC (eVar 2) aN)))
    (sSeq (sIf (bNot (bV (eBI allD (eLc (iSeq' (eVar 2)) (.nm 6) bT (eCall 3 m_are_states (aC (eVar 6) (aC (e2 shlD (eC (.int 1)) (eVar 1)) (aC (eVar 5) aN)))) [6])))) (sRaise "BadLot" ["lot"] (aC (eVar 2) aN)) sNext)
    (sSeq (sIf (bOr (bNot (bV (eCall 1 m_is_row (aC (eVar 3) aN)))) (bOr (bC neD (eBI lenD (aC (eVar 3) aN)) (eVar 5)) (bNot (bV (eBI allD (eLc (iSeq' (eVar 3)) (.nm 7) bT (e1 (isiD ["bool"]) (eVar 7)) [7])))))) (sRaise "BadLot" ["lot"] (aC (eVar 3) aN)) sNext)
    (sSeq (sIf (bV (eBI anyD (eLc (iOf rng1 (aC (eVar 5) aN)) (.nm 8) bT (e2 neD (e2 ixD (eVar 3) (eVar 8)) (e2 ixD (eVar 3) (e2 ixD (e2 ixD (eVar 2) (eVar 8)) (eC (.int 0))))) [8]))) (sRaise "BadLot" ["lot"] (aC (eVar 3) aN)) sNext)
    (sSeq (sIf (bOr (bNot (bV (eCall 1 m_is_row (aC (eVar 4) aN)))) (bOr (bC eqD (eBI lenD (aC (eVar 4) aN)) (eC (.int 0))) (bNot (bV (eCall 3 m_are_states (aC (eVar 4) (aC (eBI lenD (aC (eVar 4) aN)) (aC (eVar 5) aN)))))))) (sRaise "BadLot" ["lot"] (aC (eVar 4) aN)) sNext)
    (sSeq (sFldD 0 csF "counters" (eVar 1))
    (sSeq (sFldD 0 csF "moves" (eCall 1 m_as_told (aC (eVar 2) aN)))
    (sSeq (sFldD 0 csF "good" (eCall 1 m_as_told (aC (eVar 3) aN)))
    (sFldD 0 csF "begins" (eCall 1 m_as_told (aC (eVar 4) aN)))))))))))))
def mi_Lot : MirI := bodyI "Lot" 8 t_mk_Lot
theorem calc_Lot (T : Txt P K mg base) : CalC P w K mg base p 10 "Lot" 4 mi_Lot :=
  calc_by T.c_Lot sc_mk_Lot rfl rfl fun f κ cdv A outer s H E hp hr => by
    subst hp
    exact (dss_cons (ds_expr (de_call (cal_need_count T) hr (by decide) (by rfl) (takes_of rfl rfl rfl rfl) (da_cons de_str (da_cons (de_var (pv 1)) da_nil))))
    (dss_cons (ds_if (dt_w (dw_or (dt_not (dt_val (de_call (cal_is_row T) hr (by decide) (by rfl) (takes_of rfl rfl rfl rfl) (da_cons (de_var (pv 2)) da_nil)))) (dw_or1 (dt_eq (hu64 hr) (de_len (by rfl) T.b_len (da_cons (de_var (pv 2)) da_nil)) de_int)))) (dss_one (T.e_BadLot.elim fun _ h => h.elim fun _ h => ds_raise (k := 0) rfl (takes_of rfl rfl rfl rfl) h (hr.mono (by decide)) rfl (da_cons (de_var (pv 2)) da_nil))) dss_nil)
    (dss_cons (ds_set sc_mk_Lot.nd rfl (by first | exact .inl rfl | exact .inr rfl) (de_len (by rfl) T.b_len (da_cons (de_var (pv 2)) da_nil)))
    (dss_cons (ds_if (dt_not (dt_val (de_all rfl (by rfl) T.b_all (dl_lcv [("line", 6)] rfl rfl sc_mk_Lot.nd (di_seq (de_var (pv 2))) (blkOk_by (N := N_mk_Lot) (sc := defScope st_mk_Lot) (by decide +kernel)) (fun _ _ _ _ _ => by exact (pg_nm (i := 6) sc_mk_Lot.nd rfl (by first | exact .inl rfl | exact .inr rfl))) (fun _ _ _ _ _ => by exact dts_nil) (fun _ _ _ _ _ => by exact (de_call (cal_are_states T) hr (by decide) (by rfl) LamX.takes0 (da_cons (de_var (pv 6)) (da_cons (de_shl de_int (de_var (pv 1))) (da_cons (de_var (pv 5)) da_nil))))) (by decide))))) (dss_one (T.e_BadLot.elim fun _ h => h.elim fun _ h => ds_raise (k := 0) rfl (takes_of rfl rfl rfl rfl) h (hr.mono (by decide)) rfl (da_cons (de_var (pv 2)) da_nil))) dss_nil)
    (dss_cons (ds_if (dt_w (dw_or (dt_not (dt_val (de_call (cal_is_row T) hr (by decide) (by rfl) (takes_of rfl rfl rfl rfl) (da_cons (de_var (pv 3)) da_nil)))) (dw_or (dt_ne (hu64 hr) (de_len (by rfl) T.b_len (da_cons (de_var (pv 3)) da_nil)) (de_var (pv 5))) (dw_or1 (dt_not (dt_val (de_all rfl (by rfl) T.b_all (dl_lcv [("truth", 7)] rfl rfl sc_mk_Lot.nd (di_seq (de_var (pv 3))) (blkOk_by (N := N_mk_Lot) (sc := defScope st_mk_Lot) (by decide +kernel)) (fun _ _ _ _ _ => by exact (pg_nm (i := 7) sc_mk_Lot.nd rfl (by first | exact .inl rfl | exact .inr rfl))) (fun _ _ _ _ _ => by exact dts_nil) (fun _ _ _ _ _ => by exact (de_isi (by rfl) T.b_isinstance (de_var (pv 7)) (pe_tyn (by rfl) T.b_bool (by decide +kernel)) (by decide +kernel))) (by decide))))))))) (dss_one (T.e_BadLot.elim fun _ h => h.elim fun _ h => ds_raise (k := 0) rfl (takes_of rfl rfl rfl rfl) h (hr.mono (by decide)) rfl (da_cons (de_var (pv 3)) da_nil))) dss_nil)
    (dss_cons (ds_if (dt_val (de_any rfl (by rfl) T.b_any (dl_lcv [("state", 8)] rfl rfl sc_mk_Lot.nd (di_range1 (by rfl) T.b_range (da_cons (de_var (pv 5)) da_nil)) (blkOk_by (N := N_mk_Lot) (sc := defScope st_mk_Lot) (by decide +kernel)) (fun _ _ _ _ _ => by exact (pg_nm (i := 8) sc_mk_Lot.nd rfl (by first | exact .inl rfl | exact .inr rfl))) (fun _ _ _ _ _ => by exact dts_nil) (fun _ _ _ _ _ => by exact (de_ne (hu64 hr) (de_at (de_var (pv 3)) (de_var (pv 8))) (de_at (de_var (pv 3)) (de_at (de_at (de_var (pv 2)) (de_var (pv 8))) de_int)))) (by decide)))) (dss_one (T.e_BadLot.elim fun _ h => h.elim fun _ h => ds_raise (k := 0) rfl (takes_of rfl rfl rfl rfl) h (hr.mono (by decide)) rfl (da_cons (de_var (pv 3)) da_nil))) dss_nil)
    (dss_cons (ds_if (dt_w (dw_or (dt_not (dt_val (de_call (cal_is_row T) hr (by decide) (by rfl) (takes_of rfl rfl rfl rfl) (da_cons (de_var (pv 4)) da_nil)))) (dw_or (dt_eq (hu64 hr) (de_len (by rfl) T.b_len (da_cons (de_var (pv 4)) da_nil)) de_int) (dw_or1 (dt_not (dt_val (de_call (cal_are_states T) hr (by decide) (by rfl) (takes_of rfl rfl rfl rfl) (da_cons (de_var (pv 4)) (da_cons (de_len (by rfl) T.b_len (da_cons (de_var (pv 4)) da_nil)) (da_cons (de_var (pv 5)) da_nil)))))))))) (dss_one (T.e_BadLot.elim fun _ h => h.elim fun _ h => ds_raise (k := 0) rfl (takes_of rfl rfl rfl rfl) h (hr.mono (by decide)) rfl (da_cons (de_var (pv 4)) da_nil))) dss_nil)
    (dss_cons (ds_fld T.f_counters (pv 0) (de_var (pv 1)))
    (dss_cons (ds_fld T.f_moves (pv 0) (de_call (cal_as_told T) hr (by decide) (by rfl) (takes_of rfl rfl rfl rfl) (da_cons (de_var (pv 2)) da_nil)))
    (dss_cons (ds_fld T.f_good (pv 0) (de_call (cal_as_told T) hr (by decide) (by rfl) (takes_of rfl rfl rfl rfl) (da_cons (de_var (pv 3)) da_nil)))
    (dss_one (ds_fld T.f_begins (pv 0) (de_call (cal_as_told T) hr (by decide) (by rfl) (takes_of rfl rfl rfl rfl) (da_cons (de_var (pv 4)) da_nil))))))))))))))

/-! __eq__ -/
/-! explored_lots -/
abbrev st_explored_lots : Stmt := top 15
abbrev N_explored_lots : List Str := ["counters", "begins", "go", "is_good", "row", "moves", "value", "line", "column", "fresh", "good", "number"]
theorem sc_explored_lots : FnScope N_explored_lots ["counters", "begins", "go", "is_good"] (defScope st_explored_lots) := ⟨rfl, rfl, rfl, by decide +kernel, rfl, by decide +kernel, by decide +kernel⟩
def t_explored_lots (Φ : Nat → Mir) : SW := (sSeq (sParN [11, 4, 5] [(fun _ => pure (.ok [])), (xOwn (lLst aN)), (xOwn (lLst aN))])
    (sSeq (sFor (iSeq' (eVar 1)) (.nm 6) (sIf (bOwn 11 (inG true) (eVar 6)) (sSeq (sPutG 11 (eVar 6) (eLenO 4))
    (sAppend 4 (eVar 6))) sNext))
    (sSeq (whL (bC ltD (eLenO 5) (eLenO 4)) (sSeq (sParX 6 7 (xVal (eOwnL 4 ixO (eLenO 5))) (xOwn (lLst aN)))
    (sSeq (sFor (iOf rng1 (aC (e2 shlD (eC (.int 1)) (eVar 0)) aN)) (.nm 8) (sSeq (sSet 9 (eCallV (fun _ => false) Φ 2 (aC (eVar 6) (aC (eVar 8) aN))))
    (sSeq (sIf (bOwn 11 (inG true) (eVar 9)) (sSeq (sPutG 11 (eVar 9) (eLenO 4))
    (sAppend 4 (eVar 9))) sNext)
    (sAppend 7 (eOwnL 11 getG (eVar 9))))))
    (sFz 7 (sAppend 5 (eBI tupD (aC (eVar 7) aN)))))) 2000)
    (sSeq (sFz 4 (sSet 10 (eBI tupL (eLc (iSeq' (eVar 4)) (.nm 6) bT (eCallV (fun _ => false) Φ 3 (aC (eVar 6) aN)) [6]))))
    (sFz 5 (sRet (eMk 4 "Lot" mi_Lot (aC (eVar 0) (aC (eBI tupD (aC (eVar 5) aN)) (aC (eVar 10) (aC (eBI tupL (eLc (iSeq' (eVar 1)) (.nm 6) bT (eOwnL 11 getG (eVar 6)) [6])) aN)))))))))))
def M_explored_lots (Φ : Nat → Mir) : Mir := bodyD 12 (t_explored_lots Φ)
theorem calh_explored_lots (T : Txt P K mg base) (kc : Nat) (V : CloV P w K mg base p kc) : CalH P w K mg base p (11 + kc + 1) "explored_lots" 4 (M_explored_lots p.mir) :=
  cal_byH T.d_explored_lots sc_explored_lots rfl fun f κ cdv A outer s H E hp hr hh => by
    subst hp
    exact (dss_cons (ds_parT 11 [4, 5] (pxa_cons dx_dicG0 (pxa_cons (dx_own (dl_lst da_nil)) (pxa_cons (dx_own (dl_lst da_nil)) pxa_nil))) rfl (pg_tp rfl (pgs_c (pg_nm (i := 11) sc_explored_lots.nd rfl (by first | exact .inl rfl | exact .inr rfl)) (pgs_c (pg_nm (i := 4) sc_explored_lots.nd rfl (by first | exact .inl rfl | exact .inr rfl)) (pgs_c (pg_nm (i := 5) sc_explored_lots.nd rfl (by first | exact .inl rfl | exact .inr rfl)) pgs_n)))))
    (dss_cons (ds_for (passes_of rfl) rfl (di_seq (de_var (pv 1))) (pg_nm (i := 6) sc_explored_lots.nd rfl (by first | exact .inl rfl | exact .inr rfl)) (dss_one (ds_if (dt_notInG (hu9 hr) (de_var (pv 6)) (pv 11)) (dss_cons (ds_putG (hu9 hr) (pv 11) (de_var (pv 6)) (de_lenO (by rfl) T.b_len (pv 4)))
    (dss_one (ds_append (pv 4) (de_var (pv 6)) (pe_bm PySem.F.plainAttrs_list PySem.F.slot_list_append PySem.F.type_list_append mt_append (pv 4) (pa_cons (de_var (pv 6)) pa_nil))))) dss_nil)))
    (dss_cons (ds_while 2000 (passes_of rfl) (dt_lt (de_lenO (by rfl) T.b_len (pv 5)) (de_lenO (by rfl) T.b_len (pv 4))) (dss_cons (ds_parX rfl sc_explored_lots.nd rfl rfl (by decide) rfl rfl (dx_val (de_ixOwn (pv 4) (de_lenO (by rfl) T.b_len (pv 5)))) (dx_own (dl_lst da_nil)) rfl)
    (dss_cons (ds_for (passes_of rfl) rfl (di_range1 (by rfl) T.b_range (da_cons (de_shl de_int (de_var (pv 0))) da_nil)) (pg_nm (i := 8) sc_explored_lots.nd rfl (by first | exact .inl rfl | exact .inr rfl)) (dss_cons (ds_set sc_explored_lots.nd rfl (by first | exact .inl rfl | exact .inr rfl) (de_callV V hh hr (by omega) rfl (by first | exact .inl rfl | exact .inr (.inl rfl) | exact .inr (.inr rfl) | decide) (takes_of rfl rfl rfl rfl) (da_cons (de_var (pv 6)) (da_cons (de_var (pv 8)) da_nil))))
    (dss_cons (ds_if (dt_notInG (hu9 hr) (de_var (pv 9)) (pv 11)) (dss_cons (ds_putG (hu9 hr) (pv 11) (de_var (pv 9)) (de_lenO (by rfl) T.b_len (pv 4)))
    (dss_one (ds_append (pv 4) (de_var (pv 9)) (pe_bm PySem.F.plainAttrs_list PySem.F.slot_list_append PySem.F.type_list_append mt_append (pv 4) (pa_cons (de_var (pv 9)) pa_nil))))) dss_nil)
    (dss_one (ds_append (pv 7) (de_getG (hu9 hr) (pv 11) (de_var (pv 9))) (pe_bm PySem.F.plainAttrs_list PySem.F.slot_list_append PySem.F.type_list_append mt_append (pv 7) (pa_cons (de_getG (hu9 hr) (pv 11) (de_var (pv 9))) pa_nil)))))))
    (dss_one (ds_frz 7 (ds_append (pv 5) (de_tuple (by rfl) T.b_tuple (da_cons (de_var (pv 7)) da_nil)) (pe_bm PySem.F.plainAttrs_list PySem.F.slot_list_append PySem.F.type_list_append mt_append (pv 5) (pa_cons (de_tuple (by rfl) T.b_tuple (da_cons (de_var (pv 7)) da_nil)) pa_nil))))))))
    (dss_cons (ds_frz 4 (ds_set sc_explored_lots.nd rfl (by first | exact .inl rfl | exact .inr rfl) (de_tupL (by rfl) T.b_tuple (dl_lcH [("value", 6)] rfl hh rfl sc_explored_lots.nd (di_seq (de_var (pv 4))) (blkOk_by (N := N_explored_lots) (sc := defScope st_explored_lots) (by decide +kernel)) (fun _ _ _ _ _ => by exact (pg_nm (i := 6) sc_explored_lots.nd rfl (by first | exact .inl rfl | exact .inr rfl))) (fun _ _ _ _ _ hh => by exact dts_nil) (fun _ _ _ _ _ hh => by exact (de_callV V hh hr (by omega) rfl (by first | exact .inl rfl | exact .inr (.inl rfl) | exact .inr (.inr rfl) | decide) LamX.takes0 (da_cons (de_var (pv 6)) da_nil))) (by decide)))))
    (dss_one (ds_frz 5 (ds_ret (de_make (calc_Lot T) hr (by omega) rfl (takes_of rfl rfl rfl rfl) (da_cons (de_var (pv 0)) (da_cons (de_tuple (by rfl) T.b_tuple (da_cons (de_var (pv 5)) da_nil)) (da_cons (de_var (pv 10)) (da_cons (de_tupL (by rfl) T.b_tuple (dl_lcv [("value", 6)] rfl rfl sc_explored_lots.nd (di_seq (de_var (pv 1))) (blkOk_by (N := N_explored_lots) (sc := defScope st_explored_lots) (by decide +kernel)) (fun _ _ _ _ _ => by exact (pg_nm (i := 6) sc_explored_lots.nd rfl (by first | exact .inl rfl | exact .inr rfl))) (fun _ _ _ _ _ => by exact dts_nil) (fun _ _ _ _ _ => by exact (de_getG (hu9 hr) (pv 11) (de_var (pv 6)))) (by decide))) da_nil))))))))))))

/-! parted -/
abbrev st_parted : Stmt := top 17
abbrev N_parted : List Str := ["lot", "number", "fresh", "state", "line", "look", "classes", "truth", "after"]
theorem sc_parted : FnScope N_parted ["lot"] (defScope st_parted) := ⟨rfl, rfl, rfl, by decide +kernel, rfl, by decide +kernel, by decide +kernel⟩
def t_parted : SW := (sSeq (sSet 6 (eOfL (eLc (iSeq' (e1 (fldD csF "good") (eVar 0))) (.nm 7) bT (eBI intD (aC (eVar 7) aN)) [7])))
    (whL (bV (eC (.bl true))) (sSeq (sParX 1 2 (fun _ => pure (.ok [])) (xOwn (lLst aN)))
    (sSeq (sFor (iOf enum1 (aC (e1 (fldD csF "moves") (eVar 0)) aN)) (.cons (.nm 3) (.cons (.nm 4) .nil)) (sSeq (sSet 5 (e2 addD (eTup (aC (e2 ixD (eVar 6) (eVar 3)) aN)) (eBI tupL (eLc (iSeq' (eVar 4)) (.nm 8) bT (e2 ixD (eVar 6) (eVar 8)) [8]))))
    (sSeq (sSetdG 1 (eVar 5) (eLenG 1))
    (sAppend 2 (eOwnL 1 getG (eVar 5))))))
    (sSeq (sIf (bC eqD (eLenG 1) (eBI lenL (eSrtSet (eVar 6)))) (sRet (eVar 6)) sNext)
    (sFz 2 (sSet 6 (eVar 2)))))) 2000))
def m_parted : Mir := bodyD 9 t_parted
theorem cal_parted (T : Txt P K mg base) : Cal P w K mg base p 2 "parted" 1 m_parted :=
  cal_by T.d_parted sc_parted rfl fun f κ cdv A outer s H E hp hr => by
    subst hp
    exact (dss_cons (ds_set sc_parted.nd rfl (by first | exact .inl rfl | exact .inr rfl) (de_ofL (dl_lcv [("truth", 7)] rfl rfl sc_parted.nd (di_seq (de_fld T.f_good (de_var (pv 0)))) (blkOk_by (N := N_parted) (sc := defScope st_parted) (by decide +kernel)) (fun _ _ _ _ _ => by exact (pg_nm (i := 7) sc_parted.nd rfl (by first | exact .inl rfl | exact .inr rfl))) (fun _ _ _ _ _ => by exact dts_nil) (fun _ _ _ _ _ => by exact (de_intc (by rfl) T.b_int (da_cons (de_var (pv 7)) da_nil))) (by decide))))
    (dss_one (ds_while 2000 (passes_of rfl) (dt_val de_bl) (dss_cons (ds_parX rfl sc_parted.nd rfl rfl (by decide) rfl rfl dx_dicG0 (dx_own (dl_lst da_nil)) rfl)
    (dss_cons (ds_for (passes_of rfl) rfl (di_enum (by rfl) T.b_enumerate (da_cons (de_fld T.f_moves (de_var (pv 0))) da_nil)) (pg_tp rfl (pgs_c (pg_nm (i := 3) sc_parted.nd rfl (by first | exact .inl rfl | exact .inr rfl)) (pgs_c (pg_nm (i := 4) sc_parted.nd rfl (by first | exact .inl rfl | exact .inr rfl)) pgs_n))) (dss_cons (ds_set sc_parted.nd rfl (by first | exact .inl rfl | exact .inr rfl) (de_add (de_tup (da_cons (de_at (de_var (pv 6)) (de_var (pv 3))) da_nil)) (de_tupL (by rfl) T.b_tuple (dl_lcv [("after", 8)] rfl rfl sc_parted.nd (di_seq (de_var (pv 4))) (blkOk_by (N := N_parted) (sc := defScope st_parted) (by decide +kernel)) (fun _ _ _ _ _ => by exact (pg_nm (i := 8) sc_parted.nd rfl (by first | exact .inl rfl | exact .inr rfl))) (fun _ _ _ _ _ => by exact dts_nil) (fun _ _ _ _ _ => by exact (de_at (de_var (pv 6)) (de_var (pv 8)))) (by decide)))))
    (dss_cons (ds_setdG (hu9 hr) (pv 1) (de_var (pv 5)) (de_lenG (by rfl) T.b_len (pv 1)))
    (dss_one (ds_append (pv 2) (de_getG (hu9 hr) (pv 1) (de_var (pv 5))) (pe_bm PySem.F.plainAttrs_list PySem.F.slot_list_append PySem.F.type_list_append mt_append (pv 2) (pa_cons (de_getG (hu9 hr) (pv 1) (de_var (pv 5))) pa_nil)))))))
    (dss_cons (ds_if (dt_eq (hu64 hr) (de_lenG (by rfl) T.b_len (pv 1)) (de_lenL (by rfl) T.b_len (dl_srtSet rfl (by rfl) T.b_sorted (by rfl) T.b_set (de_var (pv 6))))) (dss_one (ds_ret (de_var (pv 6)))) dss_nil)
    (dss_one (ds_frz 2 (ds_set sc_parted.nd rfl (by first | exact .inl rfl | exact .inr rfl) (de_var (pv 2)))))))))))

/-! least -/
abbrev st_least : Stmt := top 18
abbrev N_least : List Str := ["lot", "state", "part", "begins", "go", "classes", "first"]
theorem sc_least : FnScope N_least ["lot"] (defScope st_least) := ⟨rfl, rfl, rfl, by decide +kernel, rfl, by decide +kernel, by decide +kernel⟩
def lm_0 : Lm := lmE (xArg 3 (sX ((defBody st_least).getD 0 sDf)))
abbrev N_c0 : List Str := ["state", "lot"]
theorem sc_c0 : NdefX.NScope N_c0 ["state"] ["lot"] (lm_0.scope) := NdefX.nscope_by (by decide +kernel)
theorem hd_0 : NdefX.ndefB (defScope st_least) (lm_0.scope) ["lot"] = true := by decide +kernel
def te_0 : EW := (e2 ixD (e1 (fldD csF "good") (eVar 1)) (eVar 0))
def lm_1 : Lm := lmE (xArg 2 (sX ((defBody st_least).getD 0 sDf)))
abbrev N_c1 : List Str := ["state", "column", "lot"]
theorem sc_c1 : NdefX.NScope N_c1 ["state", "column"] ["lot"] (lm_1.scope) := NdefX.nscope_by (by decide +kernel)
theorem hd_1 : NdefX.ndefB (defScope st_least) (lm_1.scope) ["lot"] = true := by decide +kernel
def te_1 : EW := (e2 ixD (e2 ixD (e1 (fldD csF "moves") (eVar 2)) (eVar 0)) (eVar 1))
abbrev lm_2 : Stmt := ((defBody st_least).getD 5 sDf)
abbrev N_c2 : List Str := ["part", "column", "classes", "first", "lot"]
theorem sc_c2 : NdefX.NScope N_c2 ["part", "column"] ["classes", "first", "lot"] (C8.fnScope lm_2) := NdefX.nscope_by (by decide +kernel)
theorem hd_2 : NdefX.ndefB (defScope st_least) (C8.fnScope lm_2) ["classes", "first", "lot"] = true := by decide +kernel
def te_2 : SW := (sRet (e2 ixD (eVar 2) (e2 ixD (e2 ixD (e1 (fldD csF "moves") (eVar 4)) (e2 ixG (eVar 3) (eVar 0))) (eVar 1))))
def lm_3 : Lm := lmE (xArg 3 (sX ((defBody st_least).getD 6 sDf)))
abbrev N_c3 : List Str := ["part", "first", "lot"]
theorem sc_c3 : NdefX.NScope N_c3 ["part"] ["first", "lot"] (lm_3.scope) := NdefX.nscope_by (by decide +kernel)
theorem hd_3 : NdefX.ndefB (defScope st_least) (lm_3.scope) ["first", "lot"] = true := by decide +kernel
def te_3 : EW := (e2 ixD (e1 (fldD csF "good") (eVar 2)) (e2 ixG (eVar 1) (eVar 0)))
def own_least (Φ : Nat → Mir) : List (Nat × (Env' → Mir)) := [(0, cloE 2 1 [0] te_0), (1, cloE 3 2 [0] te_1), (2, cloS 5 2 [5, 6, 0] te_2), (3, cloE 3 1 [6, 0] te_3)]
def lams_least (X : Cx) : Nat → FV := lamsL [(0, .clo (X.env.qual ++ "<lambda>") (LamAt (X.env.qual ++ "<lambda>") X.env.cells lm_0)), (1, .clo (X.env.qual ++ "<lambda>") (LamAt (X.env.qual ++ "<lambda>") X.env.cells lm_1)), (2, .clo (X.env.qual ++ "go") (fun f c => fnP f (NdefX.NF.of lm_2 "go" (X.env.qual ++ "go") (cloFrom X.env.cells (C8.fnScope lm_2).names []) c))), (3, .clo (X.env.qual ++ "<lambda>") (LamAt (X.env.qual ++ "<lambda>") X.env.cells lm_3))]
def t_least (Φ : Nat → Mir) : SW := (sSeq (sSet 0 (eCallH 4 M_explored_lots (own_least Φ) Φ (aC (e1 (fldD csF "counters") (eVar 0)) (aC (e1 (fldD csF "begins") (eVar 0)) (aC (eC (.fn 1)) (aC (eC (.fn 0)) aN))))))
    (sSeq (sSet 5 (eCall 1 m_parted (aC (eVar 0) aN)))
    (sSeq (sSetX 6 (fun _ => pure (.ok [])))
    (sSeq (sFor (iOf enum1 (aC (eVar 5) aN)) (.cons (.nm 1) (.cons (.nm 2) .nil)) (sSetdG 6 (eVar 2) (eVar 1)))
    (sSeq (sSet 3 (eOfL (eLc (iSeq' (e1 (fldD csF "begins") (eVar 0))) (.nm 1) bT (e2 ixD (eVar 5) (eVar 1)) [1])))
    (sSeq (sFz 6 (sSet 4 (eC (.fn 2))))
    (sFz 6 (sRet (eCallH 4 M_explored_lots (own_least Φ) Φ (aC (e1 (fldD csF "counters") (eVar 0)) (aC (eVar 3) (aC (eVar 4) (aC (eC (.fn 3)) aN)))))))))))))
def m_least : Mir := bodyM (fun _ => true) 7 (t_least (fun _ _ => WP.bad))
theorem cal_least (T : Txt P K mg base) {c0 P0 c1 P1 c2 P2 c3 P3 c4 P4 : Addr} (L : TxtL K mg base p.T c0 P0 c1 P1 c2 P2 c3 P3 c4 P4) : Cal P w K mg base p 15 "least" 1 m_least :=
  cal_byM L.t_least.d sc_least rfl lams_least fun f κ A outer s H E hT hlam hmir hh hr => by
    have L : TxtL K mg base κ.p.T c0 P0 c1 P1 c2 P2 c3 P3 c4 P4 := by rw [hT]; exact L
    have M_ := L.t_least
    rw [show t_least (fun _ _ => WP.bad) = t_least κ.p.mir by rw [hmir]]
    have lnm_least : ∀ {l c : Nat}, nm_least l c = ("least.<locals>.<lambda>" : Str) → nm_least l c = (cxOf (L2.CX P w) P w K mg base N_least "least" (defScope st_least) f (.ref c0) A outer s H E).env.qual ++ "<lambda>" := fun h => h.trans (by first | rfl | decide +kernel)
    have lnm_least_go : ∀ {l c : Nat}, nm_least l c = ("least.<locals>.go" : Str) → nm_least l c = (cxOf (L2.CX P w) P w K mg base N_least "least" (defScope st_least) f (.ref c0) A outer s H E).env.qual ++ "go" := fun h => h.trans (by first | rfl | decide +kernel)
    have hl_0 : κ.p.lam 0 = .clo ((cxOf (L2.CX P w) P w K mg base N_least "least" (defScope st_least) f (.ref c0) A outer s H E).env.qual ++ "<lambda>") (LamAt ((cxOf (L2.CX P w) P w K mg base N_least "least" (defScope st_least) f (.ref c0) A outer s H E).env.qual ++ "<lambda>") (cxOf (L2.CX P w) P w K mg base N_least "least" (defScope st_least) f (.ref c0) A outer s H E).env.cells lm_0) := by rw [hlam]; rfl
    have hl_1 : κ.p.lam 1 = .clo ((cxOf (L2.CX P w) P w K mg base N_least "least" (defScope st_least) f (.ref c0) A outer s H E).env.qual ++ "<lambda>") (LamAt ((cxOf (L2.CX P w) P w K mg base N_least "least" (defScope st_least) f (.ref c0) A outer s H E).env.qual ++ "<lambda>") (cxOf (L2.CX P w) P w K mg base N_least "least" (defScope st_least) f (.ref c0) A outer s H E).env.cells lm_1) := by rw [hlam]; rfl
    have hl_2 : κ.p.lam 2 = .clo ((cxOf (L2.CX P w) P w K mg base N_least "least" (defScope st_least) f (.ref c0) A outer s H E).env.qual ++ "go") (fun f c => fnP f (NdefX.NF.of lm_2 "go" ((cxOf (L2.CX P w) P w K mg base N_least "least" (defScope st_least) f (.ref c0) A outer s H E).env.qual ++ "go") (cloFrom (cxOf (L2.CX P w) P w K mg base N_least "least" (defScope st_least) f (.ref c0) A outer s H E).env.cells (C8.fnScope lm_2).names []) c)) := by rw [hlam]; rfl
    have hl_3 : κ.p.lam 3 = .clo ((cxOf (L2.CX P w) P w K mg base N_least "least" (defScope st_least) f (.ref c0) A outer s H E).env.qual ++ "<lambda>") (LamAt ((cxOf (L2.CX P w) P w K mg base N_least "least" (defScope st_least) f (.ref c0) A outer s H E).env.qual ++ "<lambda>") (cxOf (L2.CX P w) P w K mg base N_least "least" (defScope st_least) f (.ref c0) A outer s H E).env.cells lm_3) := by rw [hlam]; rfl
    have hown : ∀ q ∈ own_least κ.p.mir, CloB (cxOf (L2.CX P w) P w K mg base N_least "least" (defScope st_least) f (.ref c0) A outer s H E) κ 2 q.1 q.2 := (List.forall_mem_cons.mpr ⟨(cloB_lam (k := 1) hl_0 sc_c0 (fun _ _ _ _ _ us hl => match us, hl with | [_], _ => rfl) (hd_0) rfl (fun f c' κ' A outer s H E hp' hr hh => by
        obtain ⟨p', i0', h0', self', sdx'⟩ := κ'
        obtain rfl : p' = κ.p := hp'
        exact (de_at (de_fld T.f_good (de_var (pv 1))) (de_var (pv 0))))).mono (by decide), (List.forall_mem_cons.mpr ⟨(cloB_lam (k := 1) hl_1 sc_c1 (fun _ _ _ _ _ us hl => match us, hl with | [_, _], _ => rfl) (hd_1) rfl (fun f c' κ' A outer s H E hp' hr hh => by
        obtain ⟨p', i0', h0', self', sdx'⟩ := κ'
        obtain rfl : p' = κ.p := hp'
        exact (de_at (de_at (de_fld T.f_moves (de_var (pv 2))) (de_var (pv 0))) (de_var (pv 1))))).mono (by decide), (List.forall_mem_cons.mpr ⟨(cloB_def (k := 1) hl_2 sc_c2 (fun _ _ _ _ _ _ us hl => match us, hl with | [_, _], _ => rfl) (hd_2) rfl (fun f c' κ' A outer s H E hp' hr hh => by
        obtain ⟨p', i0', h0', self', sdx'⟩ := κ'
        obtain rfl : p' = κ.p := hp'
        exact (dss_one (ds_ret (de_at (de_var (pv 2)) (de_at (de_at (de_fld T.f_moves (de_var (pv 4))) (de_ixG (hu9 hr) (de_var (pv 3)) (de_var (pv 0)))) (de_var (pv 1)))))))).mono (by decide), (List.forall_mem_cons.mpr ⟨(cloB_lam (k := 1) hl_3 sc_c3 (fun _ _ _ _ _ us hl => match us, hl with | [_], _ => rfl) (hd_3) rfl (fun f c' κ' A outer s H E hp' hr hh => by
        obtain ⟨p', i0', h0', self', sdx'⟩ := κ'
        obtain rfl : p' = κ.p := hp'
        exact (de_at (de_fld T.f_good (de_var (pv 2))) (de_ixG (hu9 hr) (de_var (pv 1)) (de_var (pv 0)))))).mono (by decide), List.forall_mem_nil _⟩)⟩)⟩)⟩)
    have hV : CloV P w K mg base κ.p 2 (isIn (own_least κ.p.mir)) := cloV_no fun j hj => by rw [hlam]; exact lams_no rfl hj
    exact (dss_cons (ds_set sc_least.nd rfl (by first | exact .inl rfl | exact .inr rfl) (de_callH (M := M_explored_lots) (fun p' hT' V' => calh_explored_lots T _ V') hown hV hh hr (by decide) (by rfl) (takes_of rfl rfl rfl rfl) (da_cons (de_fld T.f_counters (de_var (pv 0))) (da_cons (de_fld T.f_begins (de_var (pv 0))) (da_cons (de_lamN M_.tb rfl M_.mem (lnm_least rfl) M_.un hl_1 rfl (ndef_free hd_1)) (da_cons (de_lamN M_.tb rfl M_.mem (lnm_least rfl) M_.un hl_0 rfl (ndef_free hd_0)) da_nil))))))
    (dss_cons (ds_set sc_least.nd rfl (by first | exact .inl rfl | exact .inr rfl) (de_call (cal_parted T) hr (by decide) (by rfl) (takes_of rfl rfl rfl rfl) (da_cons (de_var (pv 0)) da_nil)))
    (dss_cons (ds_setX sc_least.nd rfl (by first | exact .inl rfl | exact .inr rfl) dx_dicG0)
    (dss_cons (ds_for (passes_of rfl) rfl (di_enum (by rfl) T.b_enumerate (da_cons (de_var (pv 5)) da_nil)) (pg_tp rfl (pgs_c (pg_nm (i := 1) sc_least.nd rfl (by first | exact .inl rfl | exact .inr rfl)) (pgs_c (pg_nm (i := 2) sc_least.nd rfl (by first | exact .inl rfl | exact .inr rfl)) pgs_n))) (dss_one (ds_setdG (hu9 hr) (pv 6) (de_var (pv 2)) (de_var (pv 1)))))
    (dss_cons (ds_setLcv [("state", 1)] rfl rfl sc_least.nd rfl rfl rfl (di_seq (de_fld T.f_begins (de_var (pv 0)))) (blkOk_by (N := N_least) (sc := defScope st_least) (by decide +kernel)) (fun _ _ _ _ _ => by exact (pg_nm (i := 1) sc_least.nd rfl (by first | exact .inl rfl | exact .inr rfl))) (fun _ _ _ _ _ => by exact dts_nil) (fun _ _ _ _ _ => by exact (de_at (de_var (pv 5)) (de_var (pv 1)))) (by decide))
    (dss_cons (ds_frz 6 (ds_ndef rfl M_.tb rfl M_.mem (lnm_least_go rfl) M_.un hl_2 (ndef_free hd_2) rfl rfl rfl sc_least.nd rfl (by first | exact .inl rfl | exact .inr rfl) (by first | exact .inl rfl | exact .inr rfl)))
    (dss_one (ds_frz 6 (ds_ret (de_callH (M := M_explored_lots) (fun p' hT' V' => calh_explored_lots T _ V') hown hV hh hr (by decide) (by rfl) (takes_of rfl rfl rfl rfl) (da_cons (de_fld T.f_counters (de_var (pv 0))) (da_cons (de_var (pv 3)) (da_cons (de_var (pv 4)) (da_cons (de_lamN M_.tb rfl M_.mem (lnm_least rfl) M_.un hl_3 rfl (ndef_free hd_3)) da_nil))))))))))))))

/-! column_weight -/
abbrev st_column_weight : Stmt := top 20
abbrev N_column_weight : List Str := ["y", "column", "place", "weight"]
theorem sc_column_weight : FnScope N_column_weight ["y", "column"] (defScope st_column_weight) := ⟨rfl, rfl, rfl, by decide +kernel, rfl, by decide +kernel, by decide +kernel⟩
def t_column_weight : SW := (sRet (eBI sumD (eLc (iOf enum1 (aC (eVar 0) aN)) (.cons (.nm 2) (.cons (.nm 3) .nil)) (bC eqD (e2 andD (e2 shrD (eVar 1) (eVar 2)) (eC (.int 1))) (eC (.int 1))) (eVar 3) [2, 3])))
def m_column_weight : Mir := bodyD 4 t_column_weight
theorem cal_column_weight (T : Txt P K mg base) : Cal P w K mg base p 2 "column_weight" 2 m_column_weight :=
  cal_by T.d_column_weight sc_column_weight rfl fun f κ cdv A outer s H E hp hr => by
    subst hp
    exact (dss_one (ds_ret (de_sum rfl (by rfl) T.b_sum (dl_lcv [("place", 2), ("weight", 3)] rfl rfl sc_column_weight.nd (di_enum (by rfl) T.b_enumerate (da_cons (de_var (pv 0)) da_nil)) (blkOk_by (N := N_column_weight) (sc := defScope st_column_weight) (by decide +kernel)) (fun _ _ _ _ _ => by exact (pg_tp rfl (pgs_c (pg_nm (i := 2) sc_column_weight.nd rfl (by first | exact .inl rfl | exact .inr rfl)) (pgs_c (pg_nm (i := 3) sc_column_weight.nd rfl (by first | exact .inl rfl | exact .inr rfl)) pgs_n)))) (fun _ _ _ _ _ => by exact (dts_one (dt_eq (hu64 hr) (de_bitand (de_shr (de_var (pv 1)) (de_var (pv 2))) de_int) de_int))) (fun _ _ _ _ _ => by exact (de_var (pv 3))) (by decide)))))

/-! explored_weights -/
abbrev st_explored_weights : Stmt := top 21
abbrev N_explored_weights : List Str := ["y", "begins", "go", "is_good", "row", "moves", "value", "line", "column", "fresh", "good", "number"]
theorem sc_explored_weights : FnScope N_explored_weights ["y", "begins", "go", "is_good"] (defScope st_explored_weights) := ⟨rfl, rfl, rfl, by decide +kernel, rfl, by decide +kernel, by decide +kernel⟩
def t_explored_weights (Φ : Nat → Mir) : SW := (sSeq (sParN [11, 4, 5] [(fun _ => pure (.ok [])), (xOwn (lLst aN)), (xOwn (lLst aN))])
    (sSeq (sFor (iSeq' (eVar 1)) (.nm 6) (sIf (bOwn 11 (inG true) (eVar 6)) (sSeq (sPutG 11 (eVar 6) (eLenO 4))
    (sAppend 4 (eVar 6))) sNext))
    (sSeq (whL (bC ltD (eLenO 5) (eLenO 4)) (sSeq (sParX 6 7 (xVal (eOwnL 4 ixO (eLenO 5))) (xOwn (lLst aN)))
    (sSeq (sFor (iOf rng1 (aC (e2 shlD (eC (.int 1)) (eBI lenD (aC (eVar 0) aN))) aN)) (.nm 8) (sSeq (sSet 9 (eCallV (fun _ => false) Φ 2 (aC (eVar 6) (aC (eCall 2 m_column_weight (aC (eVar 0) (aC (eVar 8) aN))) aN))))
    (sSeq (sIf (bOwn 11 (inG true) (eVar 9)) (sSeq (sPutG 11 (eVar 9) (eLenO 4))
    (sAppend 4 (eVar 9))) sNext)
    (sAppend 7 (eOwnL 11 getG (eVar 9))))))
    (sFz 7 (sAppend 5 (eBI tupD (aC (eVar 7) aN)))))) 2000)
    (sSeq (sFz 4 (sSet 10 (eBI tupL (eLc (iSeq' (eVar 4)) (.nm 6) bT (eCallV (fun _ => false) Φ 3 (aC (eVar 6) aN)) [6]))))
    (sFz 5 (sRet (eCall 1 m_least (aC (eMk 4 "Lot" mi_Lot (aC (eBI lenD (aC (eVar 0) aN)) (aC (eBI tupD (aC (eVar 5) aN)) (aC (eVar 10) (aC (eBI tupL (eLc (iSeq' (eVar 1)) (.nm 6) bT (eOwnL 11 getG (eVar 6)) [6])) aN))))) aN))))))))
def M_explored_weights (Φ : Nat → Mir) : Mir := bodyD 12 (t_explored_weights Φ)
theorem calh_explored_weights (T : Txt P K mg base) {c0 P0 c1 P1 c2 P2 c3 P3 c4 P4 : Addr} (L : TxtL K mg base p.T c0 P0 c1 P1 c2 P2 c3 P3 c4 P4) (kc : Nat) (V : CloV P w K mg base p kc) : CalH P w K mg base p (15 + kc + 1) "explored_weights" 4 (M_explored_weights p.mir) :=
  cal_byH T.d_explored_weights sc_explored_weights rfl fun f κ cdv A outer s H E hp hr hh => by
    subst hp
    exact (dss_cons (ds_parT 11 [4, 5] (pxa_cons dx_dicG0 (pxa_cons (dx_own (dl_lst da_nil)) (pxa_cons (dx_own (dl_lst da_nil)) pxa_nil))) rfl (pg_tp rfl (pgs_c (pg_nm (i := 11) sc_explored_weights.nd rfl (by first | exact .inl rfl | exact .inr rfl)) (pgs_c (pg_nm (i := 4) sc_explored_weights.nd rfl (by first | exact .inl rfl | exact .inr rfl)) (pgs_c (pg_nm (i := 5) sc_explored_weights.nd rfl (by first | exact .inl rfl | exact .inr rfl)) pgs_n)))))
    (dss_cons (ds_for (passes_of rfl) rfl (di_seq (de_var (pv 1))) (pg_nm (i := 6) sc_explored_weights.nd rfl (by first | exact .inl rfl | exact .inr rfl)) (dss_one (ds_if (dt_notInG (hu9 hr) (de_var (pv 6)) (pv 11)) (dss_cons (ds_putG (hu9 hr) (pv 11) (de_var (pv 6)) (de_lenO (by rfl) T.b_len (pv 4)))
    (dss_one (ds_append (pv 4) (de_var (pv 6)) (pe_bm PySem.F.plainAttrs_list PySem.F.slot_list_append PySem.F.type_list_append mt_append (pv 4) (pa_cons (de_var (pv 6)) pa_nil))))) dss_nil)))
    (dss_cons (ds_while 2000 (passes_of rfl) (dt_lt (de_lenO (by rfl) T.b_len (pv 5)) (de_lenO (by rfl) T.b_len (pv 4))) (dss_cons (ds_parX rfl sc_explored_weights.nd rfl rfl (by decide) rfl rfl (dx_val (de_ixOwn (pv 4) (de_lenO (by rfl) T.b_len (pv 5)))) (dx_own (dl_lst da_nil)) rfl)
    (dss_cons (ds_for (passes_of rfl) rfl (di_range1 (by rfl) T.b_range (da_cons (de_shl de_int (de_len (by rfl) T.b_len (da_cons (de_var (pv 0)) da_nil))) da_nil)) (pg_nm (i := 8) sc_explored_weights.nd rfl (by first | exact .inl rfl | exact .inr rfl)) (dss_cons (ds_set sc_explored_weights.nd rfl (by first | exact .inl rfl | exact .inr rfl) (de_callV V hh hr (by omega) rfl (by first | exact .inl rfl | exact .inr (.inl rfl) | exact .inr (.inr rfl) | decide) (takes_of rfl rfl rfl rfl) (da_cons (de_var (pv 6)) (da_cons (de_call (cal_column_weight T) hr (by omega) (by rfl) (takes_of rfl rfl rfl rfl) (da_cons (de_var (pv 0)) (da_cons (de_var (pv 8)) da_nil))) da_nil))))
    (dss_cons (ds_if (dt_notInG (hu9 hr) (de_var (pv 9)) (pv 11)) (dss_cons (ds_putG (hu9 hr) (pv 11) (de_var (pv 9)) (de_lenO (by rfl) T.b_len (pv 4)))
    (dss_one (ds_append (pv 4) (de_var (pv 9)) (pe_bm PySem.F.plainAttrs_list PySem.F.slot_list_append PySem.F.type_list_append mt_append (pv 4) (pa_cons (de_var (pv 9)) pa_nil))))) dss_nil)
    (dss_one (ds_append (pv 7) (de_getG (hu9 hr) (pv 11) (de_var (pv 9))) (pe_bm PySem.F.plainAttrs_list PySem.F.slot_list_append PySem.F.type_list_append mt_append (pv 7) (pa_cons (de_getG (hu9 hr) (pv 11) (de_var (pv 9))) pa_nil)))))))
    (dss_one (ds_frz 7 (ds_append (pv 5) (de_tuple (by rfl) T.b_tuple (da_cons (de_var (pv 7)) da_nil)) (pe_bm PySem.F.plainAttrs_list PySem.F.slot_list_append PySem.F.type_list_append mt_append (pv 5) (pa_cons (de_tuple (by rfl) T.b_tuple (da_cons (de_var (pv 7)) da_nil)) pa_nil))))))))
    (dss_cons (ds_frz 4 (ds_set sc_explored_weights.nd rfl (by first | exact .inl rfl | exact .inr rfl) (de_tupL (by rfl) T.b_tuple (dl_lcH [("value", 6)] rfl hh rfl sc_explored_weights.nd (di_seq (de_var (pv 4))) (blkOk_by (N := N_explored_weights) (sc := defScope st_explored_weights) (by decide +kernel)) (fun _ _ _ _ _ => by exact (pg_nm (i := 6) sc_explored_weights.nd rfl (by first | exact .inl rfl | exact .inr rfl))) (fun _ _ _ _ _ hh => by exact dts_nil) (fun _ _ _ _ _ hh => by exact (de_callV V hh hr (by omega) rfl (by first | exact .inl rfl | exact .inr (.inl rfl) | exact .inr (.inr rfl) | decide) LamX.takes0 (da_cons (de_var (pv 6)) da_nil))) (by decide)))))
    (dss_one (ds_frz 5 (ds_ret (de_call (cal_least T L) hr (by omega) (by rfl) (takes_of rfl rfl rfl rfl) (da_cons (de_make (calc_Lot T) hr (by omega) rfl (takes_of rfl rfl rfl rfl) (da_cons (de_len (by rfl) T.b_len (da_cons (de_var (pv 0)) da_nil)) (da_cons (de_tuple (by rfl) T.b_tuple (da_cons (de_var (pv 5)) da_nil)) (da_cons (de_var (pv 10)) (da_cons (de_tupL (by rfl) T.b_tuple (dl_lcv [("value", 6)] rfl rfl sc_explored_weights.nd (di_seq (de_var (pv 1))) (blkOk_by (N := N_explored_weights) (sc := defScope st_explored_weights) (by decide +kernel)) (fun _ _ _ _ _ => by exact (pg_nm (i := 6) sc_explored_weights.nd rfl (by first | exact .inl rfl | exact .inr rfl))) (fun _ _ _ _ _ => by exact dts_nil) (fun _ _ _ _ _ => by exact (de_getG (hu9 hr) (pv 11) (de_var (pv 6)))) (by decide))) da_nil))))) da_nil)))))))))

/-! rest -/
abbrev st_rest : Stmt := top 26
abbrev N_rest : List Str := ["value", "n"]
theorem sc_rest : FnScope N_rest ["value", "n"] (defScope st_rest) := ⟨rfl, rfl, rfl, by decide +kernel, rfl, by decide +kernel, by decide +kernel⟩
def t_rest : SW := (sRet (e2 subD (eVar 0) (e2 mulI (e2 fdivD (eVar 0) (eVar 1)) (eVar 1))))
def m_rest : Mir := bodyD 2 t_rest
theorem cal_rest (T : Txt P K mg base) : Cal P w K mg base p 2 "rest" 2 m_rest :=
  cal_by T.d_rest sc_rest rfl fun f κ cdv A outer s H E hp hr => by
    subst hp
    exact (dss_one (ds_ret (de_sub (de_var (pv 0)) (de_mulI (de_fdiv (de_var (pv 0)) (de_var (pv 1))) (de_var (pv 1))))))

/-! halved_like -/
abbrev st_halved_like : Stmt := top 27
abbrev N_halved_like : List Str := ["value", "weight", "n", "left"]
theorem sc_halved_like : FnScope N_halved_like ["value", "weight"] (defScope st_halved_like) := ⟨rfl, rfl, rfl, by decide +kernel, rfl, by decide +kernel, by decide +kernel⟩
def t_halved_like : SW := (sSeq (sIf (bC isND (eVar 0) (eC .non)) (sRet (eC .non)) sNext)
    (sSeq (sUnp (.cons (.nm 2) (.cons (.nm 3) .nil)) (eVar 0))
    (sSeq (sIf (bC eqD (e2 andD (eVar 2) (eC (.int 1))) (eC (.int 1))) (sRet (eTup (aC (eVar 2) (aC (eCall 2 m_rest (aC (e2 mulI (e2 subD (eVar 3) (eVar 1)) (e2 fdivD (e2 addD (eVar 2) (eC (.int 1))) (eC (.int 2)))) (aC (eVar 2) aN))) aN)))) sNext)
    (sSeq (sIf (bC eqD (e2 andD (e2 subD (eVar 3) (eVar 1)) (eC (.int 1))) (eC (.int 1))) (sRet (eC .non)) sNext)
    (sRet (eTup (aC (e2 fdivD (eVar 2) (eC (.int 2))) (aC (eCall 2 m_rest (aC (e2 fdivD (e2 subD (eVar 3) (eVar 1)) (eC (.int 2))) (aC (e2 fdivD (eVar 2) (eC (.int 2))) aN))) aN))))))))
def m_halved_like : Mir := bodyD 4 t_halved_like
theorem cal_halved_like (T : Txt P K mg base) : Cal P w K mg base p 3 "halved_like" 2 m_halved_like :=
  cal_by T.d_halved_like sc_halved_like rfl fun f κ cdv A outer s H E hp hr => by
    subst hp
    exact (dss_cons (ds_if (dt_isN (de_var (pv 0)) de_non) (dss_one (ds_ret de_non)) dss_nil)
    (dss_cons (ds_unp (de_var (pv 0)) (pg_tp rfl (pgs_c (pg_nm (i := 2) sc_halved_like.nd rfl (by first | exact .inl rfl | exact .inr rfl)) (pgs_c (pg_nm (i := 3) sc_halved_like.nd rfl (by first | exact .inl rfl | exact .inr rfl)) pgs_n))))
    (dss_cons (ds_if (dt_eq (hu64 hr) (de_bitand (de_var (pv 2)) de_int) de_int) (dss_one (ds_ret (de_tup (da_cons (de_var (pv 2)) (da_cons (de_call (cal_rest T) hr (by decide) (by rfl) (takes_of rfl rfl rfl rfl) (da_cons (de_mulI (de_sub (de_var (pv 3)) (de_var (pv 1))) (de_fdiv (de_add (de_var (pv 2)) de_int) de_int)) (da_cons (de_var (pv 2)) da_nil))) da_nil))))) dss_nil)
    (dss_cons (ds_if (dt_eq (hu64 hr) (de_bitand (de_sub (de_var (pv 3)) (de_var (pv 1))) de_int) de_int) (dss_one (ds_ret de_non)) dss_nil)
    (dss_one (ds_ret (de_tup (da_cons (de_fdiv (de_var (pv 2)) de_int) (da_cons (de_call (cal_rest T) hr (by decide) (by rfl) (takes_of rfl rfl rfl rfl) (da_cons (de_fdiv (de_sub (de_var (pv 3)) (de_var (pv 1))) de_int) (da_cons (de_fdiv (de_var (pv 2)) de_int) da_nil))) da_nil)))))))))

/-! weights_like -/
abbrev st_weights_like : Stmt := top 28
abbrev N_weights_like : List Str := ["y", "v", "n", "c", "begins", "part"]
theorem sc_weights_like : FnScope N_weights_like ["y", "v", "n", "c"] (defScope st_weights_like) := ⟨rfl, rfl, rfl, by decide +kernel, rfl, by decide +kernel, by decide +kernel⟩
def lm_4 : Lm := lmE (xArg 3 (sX ((defBody st_weights_like).getD 2 sDf)))
abbrev N_c4 : List Str := ["value"]
theorem sc_c4 : NdefX.NScope N_c4 ["value"] [] (lm_4.scope) := NdefX.nscope_by (by decide +kernel)
theorem hd_4 : NdefX.ndefB (defScope st_weights_like) (lm_4.scope) [] = true := by decide +kernel
def te_4 : EW := (eAnd (e2 notND (eVar 0) (eC .non)) (e2 eqD (e2 ixD (eVar 0) (eC (.int 1))) (eC (.int 0))))
def own_weights_like (Φ : Nat → Mir) : List (Nat × (Env' → Mir)) := [(4, cloE 1 1 [] te_4), (5, fun _ ds => WP.need (ds.length = 2) (WP.nofnx (m_halved_like ds)))]
def lams_weights_like (X : Cx) : Nat → FV := lamsL [(4, .clo (X.env.qual ++ "<lambda>") (LamAt (X.env.qual ++ "<lambda>") X.env.cells lm_4)), (5, (match X.mg "halved_like" with | some (.ref f) => .stat f | _ => .no))]
def t_weights_like (Φ : Nat → Mir) : SW := (sSeq (sIf (bOr (bNot (bV (e1 (isiD ["int"]) (eVar 2)))) (bOr (bV (e1 (isiD ["bool"]) (eVar 2))) (bC ltD (eVar 2) (eC (.int 1))))) (sRaise "BadNumber" ["what", "number"] (aC (eC (.str "n")) (aC (eVar 2) aN))) sNext)
    (sSeq (sSet 4 (eOfL (eLc (iSeq' (eVar 1)) (.nm 5) bT (eTup (aC (eVar 2) (aC (eCall 2 m_rest (aC (e2 subD (eVar 3) (eVar 5)) (aC (eVar 2) aN))) aN))) [5])))
    (sRet (eCallH 4 M_explored_weights (own_weights_like Φ) Φ (aC (eVar 0) (aC (eVar 4) (aC (eC (.fn 5)) (aC (eC (.fn 4)) aN))))))))
def m_weights_like : Mir := bodyM (fun _ => true) 6 (t_weights_like (fun _ _ => WP.bad))
theorem cal_weights_like (T : Txt P K mg base) {c0 P0 c1 P1 c2 P2 c3 P3 c4 P4 : Addr} (L : TxtL K mg base p.T c0 P0 c1 P1 c2 P2 c3 P3 c4 P4) : Cal P w K mg base p 20 "weights_like" 4 m_weights_like :=
  cal_byM L.t_weights_like.d sc_weights_like rfl lams_weights_like fun f κ A outer s H E hT hlam hmir hh hr => by
    have L : TxtL K mg base κ.p.T c0 P0 c1 P1 c2 P2 c3 P3 c4 P4 := by rw [hT]; exact L
    have M_ := L.t_weights_like
    rw [show t_weights_like (fun _ _ => WP.bad) = t_weights_like κ.p.mir by rw [hmir]]
    have lnm_weights_like : ∀ {l c : Nat}, nm_weights_like l c = ("weights_like.<locals>.<lambda>" : Str) → nm_weights_like l c = (cxOf (L2.CX P w) P w K mg base N_weights_like "weights_like" (defScope st_weights_like) f (.ref c1) A outer s H E).env.qual ++ "<lambda>" := fun h => h.trans (by first | rfl | decide +kernel)
    have hl_4 : κ.p.lam 4 = .clo ((cxOf (L2.CX P w) P w K mg base N_weights_like "weights_like" (defScope st_weights_like) f (.ref c1) A outer s H E).env.qual ++ "<lambda>") (LamAt ((cxOf (L2.CX P w) P w K mg base N_weights_like "weights_like" (defScope st_weights_like) f (.ref c1) A outer s H E).env.qual ++ "<lambda>") (cxOf (L2.CX P w) P w K mg base N_weights_like "weights_like" (defScope st_weights_like) f (.ref c1) A outer s H E).env.cells lm_4) := by rw [hlam]; rfl
    have hst_5 : ∀ {f : Addr}, mg "halved_like" = some (.ref f) → κ.p.lam 5 = .stat f := fun {f} h => by
      rw [hlam]
      show (match mg "halved_like" with | some (.ref f) => FV.stat f | _ => FV.no) = _
      rw [h]
    have hown : ∀ q ∈ own_weights_like κ.p.mir, CloB (cxOf (L2.CX P w) P w K mg base N_weights_like "weights_like" (defScope st_weights_like) f (.ref c1) A outer s H E) κ 3 q.1 q.2 := (List.forall_mem_cons.mpr ⟨(cloB_lam (k := 1) hl_4 sc_c4 (fun _ _ _ _ _ us hl => match us, hl with | [_], _ => rfl) (hd_4) rfl (fun f c' κ' A outer s H E hp' hr hh => by
        obtain ⟨p', i0', h0', self', sdx'⟩ := κ'
        obtain rfl : p' = κ.p := hp'
        exact (de_and (de_notN (de_var (pv 0)) de_non) (de_one (de_eq (hu64 hr) (de_at (de_var (pv 0)) de_int) de_int))))).mono (by decide), (List.forall_mem_cons.mpr ⟨((cal_halved_like (w := w) (p := κ.p) T).mgx.elim fun _ h => (cloB_stat (hst_5 h) h (cal_halved_like T)).mono (by decide)), List.forall_mem_nil _⟩)⟩)
    have hV : CloV P w K mg base κ.p 3 (isIn (own_weights_like κ.p.mir)) := cloV_no fun j hj => by rw [hlam]; exact lams_no rfl hj
    exact (dss_cons (ds_if (dt_w (dw_or (dt_not (dt_val (de_isi (by rfl) T.b_isinstance (de_var (pv 2)) (pe_tyn (by rfl) T.b_int (by decide +kernel)) (by decide +kernel)))) (dw_or (dt_val (de_isi (by rfl) T.b_isinstance (de_var (pv 2)) (pe_tyn (by rfl) T.b_bool (by decide +kernel)) (by decide +kernel))) (dw_or1 (dt_lt (de_var (pv 2)) de_int))))) (dss_one (T.e_BadNumber.elim fun _ h => h.elim fun _ h => ds_raise (k := 0) rfl (takes_of rfl rfl rfl rfl) h (hr.mono (by decide)) rfl (da_cons de_str (da_cons (de_var (pv 2)) da_nil)))) dss_nil)
    (dss_cons (ds_setLcv [("part", 5)] rfl rfl sc_weights_like.nd rfl rfl rfl (di_seq (de_var (pv 1))) (blkOk_by (N := N_weights_like) (sc := defScope st_weights_like) (by decide +kernel)) (fun _ _ _ _ _ => by exact (pg_nm (i := 5) sc_weights_like.nd rfl (by first | exact .inl rfl | exact .inr rfl))) (fun _ _ _ _ _ => by exact dts_nil) (fun _ _ _ _ _ => by exact (de_tup (da_cons (de_var (pv 2)) (da_cons (de_call (cal_rest T) hr (by decide) (by rfl) LamX.takes0 (da_cons (de_sub (de_var (pv 3)) (de_var (pv 5))) (da_cons (de_var (pv 2)) da_nil))) da_nil)))) (by decide))
    (dss_one (ds_ret (de_callH (M := M_explored_weights) (fun p' hT' V' => calh_explored_weights T (hT' ▸ L) _ V') hown hV hh hr (by decide) (by rfl) (takes_of rfl rfl rfl rfl) (da_cons (de_var (pv 0)) (da_cons (de_var (pv 4)) (da_cons ((cal_halved_like (w := w) (p := κ.p) T).mgx.elim fun _ h => de_stat (by rfl) h (hst_5 h)) (da_cons (de_lamN M_.tb rfl M_.mem (lnm_weights_like rfl) M_.un hl_4 rfl (ndef_free hd_4)) da_nil)))))))))

/-! _law_plain_lot -/
abbrev st_law_plain_lot : Stmt := top 36
abbrev N_law_plain_lot : List Str := ["lot"]
theorem sc_law_plain_lot : FnScope N_law_plain_lot ["lot"] (defScope st_law_plain_lot) := ⟨rfl, rfl, rfl, by decide +kernel, rfl, by decide +kernel, by decide +kernel⟩
def t_law_plain_lot : SW := (sRet (eTup (aC (e1 (fldD csF "counters") (eVar 0)) (aC (e1 (fldD csF "moves") (eVar 0)) (aC (e1 (fldD csF "good") (eVar 0)) (aC (e1 (fldD csF "begins") (eVar 0)) aN))))))
def m_law_plain_lot : Mir := bodyD 1 t_law_plain_lot
theorem cal_law_plain_lot (T : Txt P K mg base) : Cal P w K mg base p 2 "_law_plain_lot" 1 m_law_plain_lot :=
  cal_by T.d_law_plain_lot sc_law_plain_lot rfl fun f κ cdv A outer s H E hp hr => by
    subst hp
    exact (dss_one (ds_ret (de_tup (da_cons (de_fld T.f_counters (de_var (pv 0))) (da_cons (de_fld T.f_moves (de_var (pv 0))) (da_cons (de_fld T.f_good (de_var (pv 0))) (da_cons (de_fld T.f_begins (de_var (pv 0))) da_nil)))))))

/-! _law_rows_below -/
abbrev st_law_rows_below : Stmt := top 37
abbrev N_law_rows_below : List Str := ["counters", "most", "rows", "counter", "longer", "row", "number"]
theorem sc_law_rows_below : FnScope N_law_rows_below ["counters", "most"] (defScope st_law_rows_below) := ⟨rfl, rfl, rfl, by decide +kernel, rfl, by decide +kernel, by decide +kernel⟩
def t_law_rows_below : SW := (sSeq (sSetOwn 2 (lLst (aC (eTup aN) aN)))
    (sSeq (sFor (iOf rng1 (aC (eVar 0) aN)) (.nm 3) (sSeq (sSetOwn 4 (lLst aN))
    (sSeq (sFz 2 (sFor (iSeq' (eVar 2)) (.nm 5) (sSetOwn 4 (fun ρ => WP.need (isOwnL ρ 4) (lCatO 4 (eOfL (eLc (iOf rng1 (aC (eVar 1) aN)) (.nm 6) bT (e2 addD (eVar 5) (eTup (aC (eVar 6) aN))) [6])) ρ)))))
    (sMove 2 4))))
    (fun ρ => pure (.nx ρ))))
def m_law_rows_below : MirL := bodyL 7 2 t_law_rows_below
theorem cal_law_rows_below (T : Txt P K mg base) : CalL P w K mg base p 2 "_law_rows_below" 2 m_law_rows_below :=
  cal_byL T.d_law_rows_below sc_law_rows_below rfl fun f κ cdv A outer s H E hp hr => by
    subst hp
    exact (dtl_cons (ds_setOwn sc_law_rows_below.nd rfl (by first | exact .inl rfl | exact .inr rfl) (dl_lst (da_cons (de_tup da_nil) da_nil)))
    (dtl_cons (ds_for (passes_of rfl) rfl (di_range1 (by rfl) T.b_range (da_cons (de_var (pv 0)) da_nil)) (pg_nm (i := 3) sc_law_rows_below.nd rfl (by first | exact .inl rfl | exact .inr rfl)) (dss_cons (ds_setOwn sc_law_rows_below.nd rfl (by first | exact .inl rfl | exact .inr rfl) (dl_lst da_nil))
    (dss_cons (ds_frz 2 (ds_for (passes_of rfl) rfl (di_seq (de_var (pv 2))) (pg_nm (i := 5) sc_law_rows_below.nd rfl (by first | exact .inl rfl | exact .inr rfl)) (dss_one (ds_setOwn sc_law_rows_below.nd rfl (by first | exact .inl rfl | exact .inr rfl) (dl_catO (pv 4) (de_ofL (dl_lcv [("number", 6)] rfl rfl sc_law_rows_below.nd (di_range1 (by rfl) T.b_range (da_cons (de_var (pv 1)) da_nil)) (blkOk_by (N := N_law_rows_below) (sc := defScope st_law_rows_below) (by decide +kernel)) (fun _ _ _ _ _ => by exact (pg_nm (i := 6) sc_law_rows_below.nd rfl (by first | exact .inl rfl | exact .inr rfl))) (fun _ _ _ _ _ => by exact dts_nil) (fun _ _ _ _ _ => by exact (de_add (de_var (pv 5)) (de_tup (da_cons (de_var (pv 6)) da_nil)))) (by decide))))))))
    (dss_one (ds_move (by decide) sc_law_rows_below.nd rfl (by first | exact .inl rfl | exact .inr rfl) (pv 4))))))
    (dtl_ret (pv 2))))

/-! _law_is_least -/
abbrev st_law_is_least : Stmt := top 39
abbrev N_law_is_least : List Str := ["lot", "counters", "moves", "good", "begins", "row", "state", "lap", "other", "firsts", "fresh", "sign", "part", "one"]
theorem sc_law_is_least : FnScope N_law_is_least ["lot"] (defScope st_law_is_least) := ⟨rfl, rfl, rfl, by decide +kernel, rfl, by decide +kernel, by decide +kernel⟩
def t_law_is_least : SW := (sSeq (sUnp (.cons (.nm 1) (.cons (.nm 2) (.cons (.nm 3) (.cons (.nm 4) .nil)))) (eVar 0))
    (sSeq (sSetOwn 5 (lLst aN))
    (sSeq (sFor (iSeq' (eVar 4)) (.nm 6) (sSelfIf 5 (bOwn 5 (inLO false) (eVar 6)) (fun ρ => WP.need (isOwnL ρ 5) (lCatO 5 (eOfL (lLst (aC (eVar 6) aN))) ρ))))
    (sSeq (sFor (iOf rng1 (aC (eBI lenD (aC (eVar 3) aN)) aN)) (.nm 7) (sSeq (sIf (bC geD (eVar 7) (eLenO 5)) sBreak sNext)
    (sFor (iSeq' (e2 ixD (eVar 2) (eOwnL 5 ixO (eVar 7)))) (.nm 8) (sIf (bOwn 5 (inLO true) (eVar 8)) (sAppend 5 (eVar 8)) sNext))))
    (sSeq (sFz 5 (sIf (bC neD (eVar 5) (eOfL (lRg (eBI lenD (aC (eVar 3) aN))))) (sRet (eC (.bl false))) sNext))
    (sSeq (sSet 12 (eOfL (eLc (iSeq' (eVar 3)) (.nm 13) bT (eBI intD (aC (eVar 13) aN)) [13])))
    (sSeq (sFor (iOf rng1 (aC (eBI lenD (aC (eVar 3) aN)) aN)) (.nm 7) (sSeq (sParX 9 10 (fun _ => pure (.ok [])) (xOwn (lLst aN)))
    (sSeq (sFz 5 (sFor (iSeq' (eVar 5)) (.nm 6) (sSeq (sSet 11 (eTup (aC (e2 ixD (eVar 12) (eVar 6)) (aC (eBI tupL (eLc (iSeq' (e2 ixD (eVar 2) (eVar 6))) (.nm 8) bT (e2 ixD (eVar 12) (eVar 8)) [8])) aN))))
    (sSeq (sPutG 9 (eVar 11) (eGet2G 9 (eVar 11) (eVar 6)))
    (sAppend 10 (eOwnL 9 getG (eVar 11)))))))
    (sSeq (sFz 10 (sIf (bC eqD (eVar 10) (eVar 12)) sBreak sNext))
    (sFz 10 (sSet 12 (eVar 10)))))))
    (sRet (e2 eqD (eLenSet (eVar 12)) (eBI lenD (aC (eVar 3) aN)))))))))))
def m_law_is_least : Mir := bodyD 14 t_law_is_least
theorem cal_law_is_least (T : Txt P K mg base) : Cal P w K mg base p 2 "_law_is_least" 1 m_law_is_least :=
  cal_by T.d_law_is_least sc_law_is_least rfl fun f κ cdv A outer s H E hp hr => by
    subst hp
    exact (dss_cons (ds_unp (de_var (pv 0)) (pg_tp rfl (pgs_c (pg_nm (i := 1) sc_law_is_least.nd rfl (by first | exact .inl rfl | exact .inr rfl)) (pgs_c (pg_nm (i := 2) sc_law_is_least.nd rfl (by first | exact .inl rfl | exact .inr rfl)) (pgs_c (pg_nm (i := 3) sc_law_is_least.nd rfl (by first | exact .inl rfl | exact .inr rfl)) (pgs_c (pg_nm (i := 4) sc_law_is_least.nd rfl (by first | exact .inl rfl | exact .inr rfl)) pgs_n))))))
    (dss_cons (ds_setOwn sc_law_is_least.nd rfl (by first | exact .inl rfl | exact .inr rfl) (dl_lst da_nil))
    (dss_cons (ds_for (passes_of rfl) rfl (di_seq (de_var (pv 4))) (pg_nm (i := 6) sc_law_is_least.nd rfl (by first | exact .inl rfl | exact .inr rfl)) (dss_one (ds_selfIf sc_law_is_least.nd rfl (by first | exact .inl rfl | exact .inr rfl) (dt_inO (hu66 hr) (de_var (pv 6)) (pv 5)) (pv 5) (dl_catO (pv 5) (de_ofL (dl_lst (da_cons (de_var (pv 6)) da_nil)))))))
    (dss_cons (ds_for (passes_of rfl) rfl (di_range1 (by rfl) T.b_range (da_cons (de_len (by rfl) T.b_len (da_cons (de_var (pv 3)) da_nil)) da_nil)) (pg_nm (i := 7) sc_law_is_least.nd rfl (by first | exact .inl rfl | exact .inr rfl)) (dss_cons (ds_if (dt_ge (de_var (pv 7)) (de_lenO (by rfl) T.b_len (pv 5))) (dss_one ds_break) dss_nil)
    (dss_one (ds_for (passes_of rfl) rfl (di_seq (de_at (de_var (pv 2)) (de_ixOwn (pv 5) (de_var (pv 7))))) (pg_nm (i := 8) sc_law_is_least.nd rfl (by first | exact .inl rfl | exact .inr rfl)) (dss_one (ds_if (dt_notInO (hu66 hr) (de_var (pv 8)) (pv 5)) (dss_one (ds_append (pv 5) (de_var (pv 8)) (pe_bm PySem.F.plainAttrs_list PySem.F.slot_list_append PySem.F.type_list_append mt_append (pv 5) (pa_cons (de_var (pv 8)) pa_nil)))) dss_nil))))))
    (dss_cons (ds_frz 5 (ds_if (dt_ne (hu64 hr) (de_var (pv 5)) (de_ofL (dl_listRg rfl (by rfl) T.b_list (by rfl) T.b_range (de_len (by rfl) T.b_len (da_cons (de_var (pv 3)) da_nil))))) (dss_one (ds_ret de_bl)) dss_nil))
    (dss_cons (ds_set sc_law_is_least.nd rfl (by first | exact .inl rfl | exact .inr rfl) (de_ofL (dl_lcv [("one", 13)] rfl rfl sc_law_is_least.nd (di_seq (de_var (pv 3))) (blkOk_by (N := N_law_is_least) (sc := defScope st_law_is_least) (by decide +kernel)) (fun _ _ _ _ _ => by exact (pg_nm (i := 13) sc_law_is_least.nd rfl (by first | exact .inl rfl | exact .inr rfl))) (fun _ _ _ _ _ => by exact dts_nil) (fun _ _ _ _ _ => by exact (de_intc (by rfl) T.b_int (da_cons (de_var (pv 13)) da_nil))) (by decide))))
    (dss_cons (ds_for (passes_of rfl) rfl (di_range1 (by rfl) T.b_range (da_cons (de_len (by rfl) T.b_len (da_cons (de_var (pv 3)) da_nil)) da_nil)) (pg_nm (i := 7) sc_law_is_least.nd rfl (by first | exact .inl rfl | exact .inr rfl)) (dss_cons (ds_parX rfl sc_law_is_least.nd rfl rfl (by decide) rfl rfl dx_dicG0 (dx_own (dl_lst da_nil)) rfl)
    (dss_cons (ds_frz 5 (ds_for (passes_of rfl) rfl (di_seq (de_var (pv 5))) (pg_nm (i := 6) sc_law_is_least.nd rfl (by first | exact .inl rfl | exact .inr rfl)) (dss_cons (ds_set sc_law_is_least.nd rfl (by first | exact .inl rfl | exact .inr rfl) (de_tup (da_cons (de_at (de_var (pv 12)) (de_var (pv 6))) (da_cons (de_tupL (by rfl) T.b_tuple (dl_lcv [("other", 8)] rfl rfl sc_law_is_least.nd (di_seq (de_at (de_var (pv 2)) (de_var (pv 6)))) (blkOk_by (N := N_law_is_least) (sc := defScope st_law_is_least) (by decide +kernel)) (fun _ _ _ _ _ => by exact (pg_nm (i := 8) sc_law_is_least.nd rfl (by first | exact .inl rfl | exact .inr rfl))) (fun _ _ _ _ _ => by exact dts_nil) (fun _ _ _ _ _ => by exact (de_at (de_var (pv 12)) (de_var (pv 8)))) (by decide))) da_nil))))
    (dss_cons (ds_putG (hu9 hr) (pv 9) (de_var (pv 11)) (de_get2G (hu9 hr) (pv 9) (de_var (pv 11)) (de_var (pv 6))))
    (dss_one (ds_append (pv 10) (de_getG (hu9 hr) (pv 9) (de_var (pv 11))) (pe_bm PySem.F.plainAttrs_list PySem.F.slot_list_append PySem.F.type_list_append mt_append (pv 10) (pa_cons (de_getG (hu9 hr) (pv 9) (de_var (pv 11))) pa_nil))))))))
    (dss_cons (ds_frz 10 (ds_if (dt_eq (hu64 hr) (de_var (pv 10)) (de_var (pv 12))) (dss_one ds_break) dss_nil))
    (dss_one (ds_frz 10 (ds_set sc_law_is_least.nd rfl (by first | exact .inl rfl | exact .inr rfl) (de_var (pv 10)))))))))
    (dss_one (ds_ret (de_eq (hu64 hr) (de_lenSet rfl (by rfl) T.b_len (by rfl) T.b_set (de_var (pv 12))) (de_len (by rfl) T.b_len (da_cons (de_var (pv 3)) da_nil))))))))))))

/-! _law_places -/
abbrev st_law_places : Stmt := top 34
abbrev N_law_places : List Str := ["row", "left", "places", "number"]
theorem sc_law_places : FnScope N_law_places ["row"] (defScope st_law_places) := ⟨rfl, rfl, rfl, by decide +kernel, rfl, by decide +kernel, by decide +kernel⟩
def t_law_places : SW := (sSeq (sPar 1 2 (aC (eOfL (lBI (fun l => listD l) (aC (eVar 0) aN))) (aC (eC (.int 0)) aN)))
    (sSeq (whL (bC neD (eOfL (eLc (iSeq' (eVar 1)) (.nm 3) (bC gtD (eVar 3) (eC (.int 0))) (eC (.int 1)) [3])) (eOfL (lLst aN))) (sPar 1 2 (aC (eOfL (eLc (iSeq' (eVar 1)) (.nm 3) bT (e2 fdivD (eVar 3) (eC (.int 2))) [3])) (aC (e2 addD (eVar 2) (eC (.int 1))) aN))) 2000)
    (sRet (eVar 2))))
def m_law_places : Mir := bodyD 4 t_law_places
theorem cal_law_places (T : Txt P K mg base) : Cal P w K mg base p 2 "_law_places" 1 m_law_places :=
  cal_by T.d_law_places sc_law_places rfl fun f κ cdv A outer s H E hp hr => by
    subst hp
    exact (dss_cons (ds_par rfl sc_law_places.nd rfl rfl (by decide) rfl rfl (da_cons (de_ofL (dl_list (by rfl) T.b_list (da_cons (de_var (pv 0)) da_nil))) (da_cons de_int da_nil)) rfl)
    (dss_cons (ds_while 2000 (passes_of rfl) (dt_ne (hu64 hr) (de_ofL (dl_lcv [("number", 3)] rfl rfl sc_law_places.nd (di_seq (de_var (pv 1))) (blkOk_by (N := N_law_places) (sc := defScope st_law_places) (by decide +kernel)) (fun _ _ _ _ _ => by exact (pg_nm (i := 3) sc_law_places.nd rfl (by first | exact .inl rfl | exact .inr rfl))) (fun _ _ _ _ _ => by exact (dts_one (dt_gt (de_var (pv 3)) de_int))) (fun _ _ _ _ _ => by exact de_int) (by decide))) (de_ofL (dl_lst da_nil))) (dss_one (ds_par rfl sc_law_places.nd rfl rfl (by decide) rfl rfl (da_cons (de_ofL (dl_lcv [("number", 3)] rfl rfl sc_law_places.nd (di_seq (de_var (pv 1))) (blkOk_by (N := N_law_places) (sc := defScope st_law_places) (by decide +kernel)) (fun _ _ _ _ _ => by exact (pg_nm (i := 3) sc_law_places.nd rfl (by first | exact .inl rfl | exact .inr rfl))) (fun _ _ _ _ _ => by exact dts_nil) (fun _ _ _ _ _ => by exact (de_fdiv (de_var (pv 3)) de_int)) (by decide))) (da_cons (de_add (de_var (pv 2)) de_int) da_nil)) rfl)))
    (dss_one (ds_ret (de_var (pv 2))))))

/-! _law_column -/
abbrev st_law_column : Stmt := top 33
abbrev N_law_column : List Str := ["row", "place", "column", "index"]
theorem sc_law_column : FnScope N_law_column ["row", "place"] (defScope st_law_column) := ⟨rfl, rfl, rfl, by decide +kernel, rfl, by decide +kernel, by decide +kernel⟩
def t_law_column : SW := (sSeq (sSet 2 (eC (.int 0)))
    (sSeq (sFor (iOf rng1 (aC (eBI lenD (aC (eVar 0) aN)) aN)) (.nm 3) (sSet 2 (e2 addD (eVar 2) (e2 mulI (e2 modD (eBI intD (aC (e2 fdivD (e2 ixD (eVar 0) (eVar 3)) (e2 shlD (eC (.int 1)) (eVar 1))) aN)) (eC (.int 2))) (e2 shlD (eC (.int 1)) (eVar 3))))))
    (sRet (eVar 2))))
def m_law_column : Mir := bodyD 4 t_law_column
theorem cal_law_column (T : Txt P K mg base) : Cal P w K mg base p 2 "_law_column" 2 m_law_column :=
  cal_by T.d_law_column sc_law_column rfl fun f κ cdv A outer s H E hp hr => by
    subst hp
    exact (dss_cons (ds_set sc_law_column.nd rfl (by first | exact .inl rfl | exact .inr rfl) de_int)
    (dss_cons (ds_for (passes_of rfl) rfl (di_range1 (by rfl) T.b_range (da_cons (de_len (by rfl) T.b_len (da_cons (de_var (pv 0)) da_nil)) da_nil)) (pg_nm (i := 3) sc_law_column.nd rfl (by first | exact .inl rfl | exact .inr rfl)) (dss_one (ds_set sc_law_column.nd rfl (by first | exact .inl rfl | exact .inr rfl) (de_add (de_var (pv 2)) (de_mulI (de_mod (de_intc (by rfl) T.b_int (da_cons (de_fdiv (de_at (de_var (pv 0)) (de_var (pv 3))) (de_shl de_int (de_var (pv 1)))) da_nil)) de_int) (de_shl de_int (de_var (pv 3))))))))
    (dss_one (ds_ret (de_var (pv 2))))))

/-! _law_is_in -/
abbrev st_law_is_in : Stmt := top 35
abbrev N_law_is_in : List Str := ["lot", "configuration", "state", "place"]
theorem sc_law_is_in : FnScope N_law_is_in ["lot", "configuration"] (defScope st_law_is_in) := ⟨rfl, rfl, rfl, by decide +kernel, rfl, by decide +kernel, by decide +kernel⟩
def t_law_is_in : SW := (sSeq (sSet 2 (e2 ixD (e2 ixD (eVar 0) (eC (.int 3))) (e2 ixD (eVar 1) (eC (.int 0)))))
    (sSeq (sFor (iOf rng1 (aC (eCall 1 m_law_places (aC (e2 ixD (eVar 1) (eC (.int 1))) aN)) aN)) (.nm 3) (sSet 2 (e2 ixD (e2 ixD (e2 ixD (eVar 0) (eC (.int 1))) (eVar 2)) (eCall 2 m_law_column (aC (e2 ixD (eVar 1) (eC (.int 1))) (aC (eVar 3) aN))))))
    (sRet (e2 ixD (e2 ixD (eVar 0) (eC (.int 2))) (eVar 2)))))
def m_law_is_in : Mir := bodyD 4 t_law_is_in
theorem cal_law_is_in (T : Txt P K mg base) : Cal P w K mg base p 3 "_law_is_in" 2 m_law_is_in :=
  cal_by T.d_law_is_in sc_law_is_in rfl fun f κ cdv A outer s H E hp hr => by
    subst hp
    exact (dss_cons (ds_set sc_law_is_in.nd rfl (by first | exact .inl rfl | exact .inr rfl) (de_at (de_at (de_var (pv 0)) de_int) (de_at (de_var (pv 1)) de_int)))
    (dss_cons (ds_for (passes_of rfl) rfl (di_range1 (by rfl) T.b_range (da_cons (de_call (cal_law_places T) hr (by decide) (by rfl) (takes_of rfl rfl rfl rfl) (da_cons (de_at (de_var (pv 1)) de_int) da_nil)) da_nil)) (pg_nm (i := 3) sc_law_is_in.nd rfl (by first | exact .inl rfl | exact .inr rfl)) (dss_one (ds_set sc_law_is_in.nd rfl (by first | exact .inl rfl | exact .inr rfl) (de_at (de_at (de_at (de_var (pv 0)) de_int) (de_var (pv 2))) (de_call (cal_law_column T) hr (by decide) (by rfl) (takes_of rfl rfl rfl rfl) (da_cons (de_at (de_var (pv 1)) de_int) (da_cons (de_var (pv 3)) da_nil)))))))
    (dss_one (ds_ret (de_at (de_at (de_var (pv 0)) de_int) (de_var (pv 2)))))))

/-! _law_weight -/
abbrev st_law_weight : Stmt := top 38
abbrev N_law_weight : List Str := ["y", "v", "configuration", "one", "number"]
theorem sc_law_weight : FnScope N_law_weight ["y", "v", "configuration"] (defScope st_law_weight) := ⟨rfl, rfl, rfl, by decide +kernel, rfl, by decide +kernel, by decide +kernel⟩
def t_law_weight : SW := (sRet (e2 addD (e2 ixD (eVar 1) (e2 ixD (eVar 2) (eC (.int 0)))) (eBI sumD (eLc (iOf zip2 (aC (eVar 0) (aC (e2 ixD (eVar 2) (eC (.int 1))) aN))) (.cons (.nm 3) (.cons (.nm 4) .nil)) bT (e2 mulI (eVar 3) (eVar 4)) [3, 4]))))
def m_law_weight : Mir := bodyD 5 t_law_weight
theorem cal_law_weight (T : Txt P K mg base) : Cal P w K mg base p 2 "_law_weight" 3 m_law_weight :=
  cal_by T.d_law_weight sc_law_weight rfl fun f κ cdv A outer s H E hp hr => by
    subst hp
    exact (dss_one (ds_ret (de_add (de_at (de_var (pv 1)) (de_at (de_var (pv 2)) de_int)) (de_sum rfl (by rfl) T.b_sum (dl_lcv [("one", 3), ("number", 4)] rfl rfl sc_law_weight.nd (di_zip (by rfl) T.b_zip (da_cons (de_var (pv 0)) (da_cons (de_at (de_var (pv 2)) de_int) da_nil))) (blkOk_by (N := N_law_weight) (sc := defScope st_law_weight) (by decide +kernel)) (fun _ _ _ _ _ => by exact (pg_tp rfl (pgs_c (pg_nm (i := 3) sc_law_weight.nd rfl (by first | exact .inl rfl | exact .inr rfl)) (pgs_c (pg_nm (i := 4) sc_law_weight.nd rfl (by first | exact .inl rfl | exact .inr rfl)) pgs_n)))) (fun _ _ _ _ _ => by exact dts_nil) (fun _ _ _ _ _ => by exact (de_mulI (de_var (pv 3)) (de_var (pv 4)))) (by decide))))))

/-! _law_fits -/
abbrev st_law_fits : Stmt := top 40
abbrev N_law_fits : List Str := ["pen", "told", "y", "v", "is_due", "lot", "counters", "begins", "rows", "lap", "location", "row", "good", "moves", "one", "state", "counter"]
theorem sc_law_fits : FnScope N_law_fits ["pen", "told", "y", "v", "is_due"] (defScope st_law_fits) := ⟨rfl, rfl, rfl, by decide +kernel, rfl, by decide +kernel, by decide +kernel⟩
def t_law_fits (Φ : Nat → Mir) : SW := (sSeq (sSet 5 (eCall 1 m_law_plain_lot (aC (eVar 1) aN)))
    (sSeq (sUnp (.cons (.nm 6) (.cons (.nm 13) (.cons (.nm 12) (.cons (.nm 7) .nil)))) (eVar 5))
    (sSeq (sIf (bOr (bC neD (eVar 6) (eBI lenD (aC (eVar 2) aN))) (bOr (bC neD (eBI lenD (aC (eVar 7) aN)) (eBI lenD (aC (eVar 3) aN))) (bNot (bV (eCall 1 m_law_is_least (aC (eVar 5) aN)))))) (sRet (eC (.bl false))) sNext)
    (sSeq (sIf (bC neD (eOfL (eLc (iSeq' (eVar 12)) (.nm 14) (bNot (bV (e1 (isiD ["bool"]) (eVar 14)))) (eC (.int 1)) [14])) (eOfL (lLst aN))) (sRet (eC (.bl false))) sNext)
    (sSeq (sIf (bC neD (eOfL (eLc (iOf rng1 (aC (eBI lenD (aC (eVar 12) aN)) aN)) (.nm 15) (bC neD (e2 ixD (eVar 12) (eVar 15)) (e2 ixD (eVar 12) (e2 ixD (e2 ixD (eVar 13) (eVar 15)) (eC (.int 0))))) (eC (.int 1)) [15])) (eOfL (lLst aN))) (sRet (eC (.bl false))) sNext)
    (sSeq (sSetOwn 8 (lCall 2 m_law_rows_below (aC (eBI lenD (aC (eVar 2) aN)) (aC (e2 ixD (eOfL (lLst (aC (eC (.int 1)) (aC (eC (.int 24)) (aC (eC (.int 6)) (aC (eC (.int 4)) aN)))))) (eBI lenD (aC (eVar 2) aN))) aN))))
    (sSeq (sFor (iOf rng1 (aC (eC (.int 10)) aN)) (.nm 9) (sAppend 8 (eBI tupL (eLc (iSeq' (eVar 2)) (.nm 16) bT (eCall 2 drawM (aC (eVar 0) (aC (eC (.int 1000)) aN))) [16]))))
    (sSeq (sFor (iOf rng1 (aC (eBI lenD (aC (eVar 3) aN)) aN)) (.nm 10) (sFz 8 (sFor (iSeq' (eVar 8)) (.nm 11) (sIf (bC neD (eCall 2 m_law_is_in (aC (eVar 5) (aC (eTup (aC (eVar 10) (aC (eVar 11) aN))) aN))) (eCallV (fun _ => false) Φ 4 (aC (eCall 3 m_law_weight (aC (eVar 2) (aC (eVar 3) (aC (eTup (aC (eVar 10) (aC (eVar 11) aN))) aN)))) aN))) (sRet (eC (.bl false))) sNext))))
    (sRet (eC (.bl true)))))))))))
def M_law_fits (Φ : Nat → Mir) : Mir := bodyD 17 (t_law_fits Φ)
theorem calh_law_fits (T : Txt P K mg base) (kc : Nat) (V : CloV P w K mg base p kc) : CalH P w K mg base p (3 + kc + 1) "_law_fits" 5 (M_law_fits p.mir) :=
  cal_byH T.d_law_fits sc_law_fits rfl fun f κ cdv A outer s H E hp hr hh => by
    subst hp
    exact (dss_cons (ds_set sc_law_fits.nd rfl (by first | exact .inl rfl | exact .inr rfl) (de_call (cal_law_plain_lot T) hr (by omega) (by rfl) (takes_of rfl rfl rfl rfl) (da_cons (de_var (pv 1)) da_nil)))
    (dss_cons (ds_unp (de_var (pv 5)) (pg_tp rfl (pgs_c (pg_nm (i := 6) sc_law_fits.nd rfl (by first | exact .inl rfl | exact .inr rfl)) (pgs_c (pg_nm (i := 13) sc_law_fits.nd rfl (by first | exact .inl rfl | exact .inr rfl)) (pgs_c (pg_nm (i := 12) sc_law_fits.nd rfl (by first | exact .inl rfl | exact .inr rfl)) (pgs_c (pg_nm (i := 7) sc_law_fits.nd rfl (by first | exact .inl rfl | exact .inr rfl)) pgs_n))))))
    (dss_cons (ds_if (dt_w (dw_or (dt_ne (hu64 hr) (de_var (pv 6)) (de_len (by rfl) T.b_len (da_cons (de_var (pv 2)) da_nil))) (dw_or (dt_ne (hu64 hr) (de_len (by rfl) T.b_len (da_cons (de_var (pv 7)) da_nil)) (de_len (by rfl) T.b_len (da_cons (de_var (pv 3)) da_nil))) (dw_or1 (dt_not (dt_val (de_call (cal_law_is_least T) hr (by omega) (by rfl) (takes_of rfl rfl rfl rfl) (da_cons (de_var (pv 5)) da_nil)))))))) (dss_one (ds_ret de_bl)) dss_nil)
    (dss_cons (ds_if (dt_ne (hu64 hr) (de_ofL (dl_lcv [("one", 14)] rfl rfl sc_law_fits.nd (di_seq (de_var (pv 12))) (blkOk_by (N := N_law_fits) (sc := defScope st_law_fits) (by decide +kernel)) (fun _ _ _ _ _ => by exact (pg_nm (i := 14) sc_law_fits.nd rfl (by first | exact .inl rfl | exact .inr rfl))) (fun _ _ _ _ _ => by exact (dts_one (dt_not (dt_val (de_isi (by rfl) T.b_isinstance (de_var (pv 14)) (pe_tyn (by rfl) T.b_bool (by decide +kernel)) (by decide +kernel)))))) (fun _ _ _ _ _ => by exact de_int) (by decide))) (de_ofL (dl_lst da_nil))) (dss_one (ds_ret de_bl)) dss_nil)
    (dss_cons (ds_if (dt_ne (hu64 hr) (de_ofL (dl_lcv [("state", 15)] rfl rfl sc_law_fits.nd (di_range1 (by rfl) T.b_range (da_cons (de_len (by rfl) T.b_len (da_cons (de_var (pv 12)) da_nil)) da_nil)) (blkOk_by (N := N_law_fits) (sc := defScope st_law_fits) (by decide +kernel)) (fun _ _ _ _ _ => by exact (pg_nm (i := 15) sc_law_fits.nd rfl (by first | exact .inl rfl | exact .inr rfl))) (fun _ _ _ _ _ => by exact (dts_one (dt_ne (hu64 hr) (de_at (de_var (pv 12)) (de_var (pv 15))) (de_at (de_var (pv 12)) (de_at (de_at (de_var (pv 13)) (de_var (pv 15))) de_int))))) (fun _ _ _ _ _ => by exact de_int) (by decide))) (de_ofL (dl_lst da_nil))) (dss_one (ds_ret de_bl)) dss_nil)
    (dss_cons (ds_setOwn sc_law_fits.nd rfl (by first | exact .inl rfl | exact .inr rfl) (dl_call (cal_law_rows_below T) hr (by omega) (by rfl) (takes_of rfl rfl rfl rfl) (da_cons (de_len (by rfl) T.b_len (da_cons (de_var (pv 2)) da_nil)) (da_cons (de_at (de_ofL (dl_lst (da_cons de_int (da_cons de_int (da_cons de_int (da_cons de_int da_nil)))))) (de_len (by rfl) T.b_len (da_cons (de_var (pv 2)) da_nil))) da_nil))))
    (dss_cons (ds_for (passes_of rfl) rfl (di_range1 (by rfl) T.b_range (da_cons de_int da_nil)) (pg_nm (i := 9) sc_law_fits.nd rfl (by first | exact .inl rfl | exact .inr rfl)) (dss_one (ds_append (pv 8) (de_tupL (by rfl) T.b_tuple (dl_lcv [("counter", 16)] rfl rfl sc_law_fits.nd (di_seq (de_var (pv 2))) (blkOk_by (N := N_law_fits) (sc := defScope st_law_fits) (by decide +kernel)) (fun _ _ _ _ _ => by exact (pg_nm (i := 16) sc_law_fits.nd rfl (by first | exact .inl rfl | exact .inr rfl))) (fun _ _ _ _ _ => by exact dts_nil) (fun _ _ _ _ _ => by exact (de_call (cal_law_draw T) hr (by omega) rfl LamX.takes0 (da_cons (de_var (pv 0)) (da_cons de_int da_nil)))) (by decide))) (pe_bm PySem.F.plainAttrs_list PySem.F.slot_list_append PySem.F.type_list_append mt_append (pv 8) (pa_cons (de_tupL (by rfl) T.b_tuple (dl_lcv [("counter", 16)] rfl rfl sc_law_fits.nd (di_seq (de_var (pv 2))) (blkOk_by (N := N_law_fits) (sc := defScope st_law_fits) (by decide +kernel)) (fun _ _ _ _ _ => by exact (pg_nm (i := 16) sc_law_fits.nd rfl (by first | exact .inl rfl | exact .inr rfl))) (fun _ _ _ _ _ => by exact dts_nil) (fun _ _ _ _ _ => by exact (de_call (cal_law_draw T) hr (by omega) rfl LamX.takes0 (da_cons (de_var (pv 0)) (da_cons de_int da_nil)))) (by decide))) pa_nil)))))
    (dss_cons (ds_for (passes_of rfl) rfl (di_range1 (by rfl) T.b_range (da_cons (de_len (by rfl) T.b_len (da_cons (de_var (pv 3)) da_nil)) da_nil)) (pg_nm (i := 10) sc_law_fits.nd rfl (by first | exact .inl rfl | exact .inr rfl)) (dss_one (ds_frz 8 (ds_for (passes_of rfl) rfl (di_seq (de_var (pv 8))) (pg_nm (i := 11) sc_law_fits.nd rfl (by first | exact .inl rfl | exact .inr rfl)) (dss_one (ds_if (dt_ne (hu64 hr) (de_call (cal_law_is_in T) hr (by omega) (by rfl) (takes_of rfl rfl rfl rfl) (da_cons (de_var (pv 5)) (da_cons (de_tup (da_cons (de_var (pv 10)) (da_cons (de_var (pv 11)) da_nil))) da_nil))) (de_callV V hh hr (by omega) rfl (by first | exact .inl rfl | exact .inr (.inl rfl) | exact .inr (.inr rfl) | decide) (takes_of rfl rfl rfl rfl) (da_cons (de_call (cal_law_weight T) hr (by omega) (by rfl) (takes_of rfl rfl rfl rfl) (da_cons (de_var (pv 2)) (da_cons (de_var (pv 3)) (da_cons (de_tup (da_cons (de_var (pv 10)) (da_cons (de_var (pv 11)) da_nil))) da_nil)))) da_nil))) (dss_one (ds_ret de_bl)) dss_nil))))))
    (dss_one (ds_ret de_bl))))))))))

/-! halved -/
abbrev st_halved : Stmt := top 23
abbrev N_halved : List Str := ["value", "weight"]
theorem sc_halved : FnScope N_halved ["value", "weight"] (defScope st_halved) := ⟨rfl, rfl, rfl, by decide +kernel, rfl, by decide +kernel, by decide +kernel⟩
def t_halved : SW := (sSeq (sIf (bOr (bC isND (eVar 0) (eC .non)) (bC eqD (e2 andD (e2 subD (eVar 0) (eVar 1)) (eC (.int 1))) (eC (.int 1)))) (sRet (eC .non)) sNext)
    (sRet (e2 fdivD (e2 subD (eVar 0) (eVar 1)) (eC (.int 2)))))
def m_halved : Mir := bodyD 2 t_halved
theorem cal_halved (T : Txt P K mg base) : Cal P w K mg base p 2 "halved" 2 m_halved :=
  cal_by T.d_halved sc_halved rfl fun f κ cdv A outer s H E hp hr => by
    subst hp
    exact (dss_cons (ds_if (dt_w (dw_or (dt_isN (de_var (pv 0)) de_non) (dw_or1 (dt_eq (hu64 hr) (de_bitand (de_sub (de_var (pv 0)) (de_var (pv 1))) de_int) de_int)))) (dss_one (ds_ret de_non)) dss_nil)
    (dss_one (ds_ret (de_fdiv (de_sub (de_var (pv 0)) (de_var (pv 1))) de_int))))

/-! weights_equal -/
abbrev st_weights_equal : Stmt := top 24
abbrev N_weights_equal : List Str := ["y", "v", "c", "part"]
theorem sc_weights_equal : FnScope N_weights_equal ["y", "v", "c"] (defScope st_weights_equal) := ⟨rfl, rfl, rfl, by decide +kernel, rfl, by decide +kernel, by decide +kernel⟩
def lm_6 : Lm := lmE (xArg 3 (sX ((defBody st_weights_equal).getD 0 sDf)))
abbrev N_c6 : List Str := ["value"]
theorem sc_c6 : NdefX.NScope N_c6 ["value"] [] (lm_6.scope) := NdefX.nscope_by (by decide +kernel)
theorem hd_6 : NdefX.ndefB (defScope st_weights_equal) (lm_6.scope) [] = true := by decide +kernel
def te_6 : EW := (e2 eqD (eVar 0) (eC (.int 0)))
def own_weights_equal (Φ : Nat → Mir) : List (Nat × (Env' → Mir)) := [(6, cloE 1 1 [] te_6), (7, fun _ ds => WP.need (ds.length = 2) (WP.nofnx (m_halved ds)))]
def lams_weights_equal (X : Cx) : Nat → FV := lamsL [(6, .clo (X.env.qual ++ "<lambda>") (LamAt (X.env.qual ++ "<lambda>") X.env.cells lm_6)), (7, (match X.mg "halved" with | some (.ref f) => .stat f | _ => .no))]
def t_weights_equal (Φ : Nat → Mir) : SW := (sRet (eCallH 4 M_explored_weights (own_weights_equal Φ) Φ (aC (eVar 0) (aC (eOfL (eLc (iSeq' (eVar 1)) (.nm 3) bT (e2 subD (eVar 2) (eVar 3)) [3])) (aC (eC (.fn 7)) (aC (eC (.fn 6)) aN))))))
def m_weights_equal : Mir := bodyM (fun _ => true) 4 (t_weights_equal (fun _ _ => WP.bad))
theorem cal_weights_equal (T : Txt P K mg base) {c0 P0 c1 P1 c2 P2 c3 P3 c4 P4 : Addr} (L : TxtL K mg base p.T c0 P0 c1 P1 c2 P2 c3 P3 c4 P4) : Cal P w K mg base p 19 "weights_equal" 3 m_weights_equal :=
  cal_byM L.t_weights_equal.d sc_weights_equal rfl lams_weights_equal fun f κ A outer s H E hT hlam hmir hh hr => by
    have L : TxtL K mg base κ.p.T c0 P0 c1 P1 c2 P2 c3 P3 c4 P4 := by rw [hT]; exact L
    have M_ := L.t_weights_equal
    rw [show t_weights_equal (fun _ _ => WP.bad) = t_weights_equal κ.p.mir by rw [hmir]]
    have lnm_weights_equal : ∀ {l c : Nat}, nm_weights_equal l c = ("weights_equal.<locals>.<lambda>" : Str) → nm_weights_equal l c = (cxOf (L2.CX P w) P w K mg base N_weights_equal "weights_equal" (defScope st_weights_equal) f (.ref c2) A outer s H E).env.qual ++ "<lambda>" := fun h => h.trans (by first | rfl | decide +kernel)
    have hl_6 : κ.p.lam 6 = .clo ((cxOf (L2.CX P w) P w K mg base N_weights_equal "weights_equal" (defScope st_weights_equal) f (.ref c2) A outer s H E).env.qual ++ "<lambda>") (LamAt ((cxOf (L2.CX P w) P w K mg base N_weights_equal "weights_equal" (defScope st_weights_equal) f (.ref c2) A outer s H E).env.qual ++ "<lambda>") (cxOf (L2.CX P w) P w K mg base N_weights_equal "weights_equal" (defScope st_weights_equal) f (.ref c2) A outer s H E).env.cells lm_6) := by rw [hlam]; rfl
    have hst_7 : ∀ {f : Addr}, mg "halved" = some (.ref f) → κ.p.lam 7 = .stat f := fun {f} h => by
      rw [hlam]
      show (match mg "halved" with | some (.ref f) => FV.stat f | _ => FV.no) = _
      rw [h]
    have hown : ∀ q ∈ own_weights_equal κ.p.mir, CloB (cxOf (L2.CX P w) P w K mg base N_weights_equal "weights_equal" (defScope st_weights_equal) f (.ref c2) A outer s H E) κ 2 q.1 q.2 := (List.forall_mem_cons.mpr ⟨(cloB_lam (k := 1) hl_6 sc_c6 (fun _ _ _ _ _ us hl => match us, hl with | [_], _ => rfl) (hd_6) rfl (fun f c' κ' A outer s H E hp' hr hh => by
        obtain ⟨p', i0', h0', self', sdx'⟩ := κ'
        obtain rfl : p' = κ.p := hp'
        exact (de_eq (hu64 hr) (de_var (pv 0)) de_int))).mono (by decide), (List.forall_mem_cons.mpr ⟨((cal_halved (w := w) (p := κ.p) T).mgx.elim fun _ h => (cloB_stat (hst_7 h) h (cal_halved T)).mono (by decide)), List.forall_mem_nil _⟩)⟩)
    have hV : CloV P w K mg base κ.p 2 (isIn (own_weights_equal κ.p.mir)) := cloV_no fun j hj => by rw [hlam]; exact lams_no rfl hj
    exact (dss_one (ds_ret (de_callH (M := M_explored_weights) (fun p' hT' V' => calh_explored_weights T (hT' ▸ L) _ V') hown hV hh hr (by decide) (by rfl) (takes_of rfl rfl rfl rfl) (da_cons (de_var (pv 0)) (da_cons (de_ofL (dl_lcv [("part", 3)] rfl rfl sc_weights_equal.nd (di_seq (de_var (pv 1))) (blkOk_by (N := N_weights_equal) (sc := defScope st_weights_equal) (by decide +kernel)) (fun _ _ _ _ _ => by exact (pg_nm (i := 3) sc_weights_equal.nd rfl (by first | exact .inl rfl | exact .inr rfl))) (fun _ _ _ _ _ => by exact dts_nil) (fun _ _ _ _ _ => by exact (de_sub (de_var (pv 2)) (de_var (pv 3)))) (by decide))) (da_cons ((cal_halved (w := w) (p := κ.p) T).mgx.elim fun _ h => de_stat (by rfl) h (hst_7 h)) (da_cons (de_lamN M_.tb rfl M_.mem (lnm_weights_equal rfl) M_.un hl_6 rfl (ndef_free hd_6)) da_nil)))))))

/-! weights_below -/
abbrev st_weights_below : Stmt := top 25
abbrev N_weights_below : List Str := ["y", "v", "c", "begins", "part"]
theorem sc_weights_below : FnScope N_weights_below ["y", "v", "c"] (defScope st_weights_below) := ⟨rfl, rfl, rfl, by decide +kernel, rfl, by decide +kernel, by decide +kernel⟩
def lm_8 : Lm := lmE (xArg 3 (sX ((defBody st_weights_below).getD 1 sDf)))
abbrev N_c8 : List Str := ["value"]
theorem sc_c8 : NdefX.NScope N_c8 ["value"] [] (lm_8.scope) := NdefX.nscope_by (by decide +kernel)
theorem hd_8 : NdefX.ndefB (defScope st_weights_below) (lm_8.scope) [] = true := by decide +kernel
def te_8 : EW := (e2 geD (eVar 0) (eC (.int 0)))
def lm_9 : Lm := lmE (xArg 2 (sX ((defBody st_weights_below).getD 1 sDf)))
abbrev N_c9 : List Str := ["value", "weight"]
theorem sc_c9 : NdefX.NScope N_c9 ["value", "weight"] [] (lm_9.scope) := NdefX.nscope_by (by decide +kernel)
theorem hd_9 : NdefX.ndefB (defScope st_weights_below) (lm_9.scope) [] = true := by decide +kernel
def te_9 : EW := (e2 fdivD (e2 subD (eVar 0) (eVar 1)) (eC (.int 2)))
def own_weights_below (Φ : Nat → Mir) : List (Nat × (Env' → Mir)) := [(8, cloE 1 1 [] te_8), (9, cloE 2 2 [] te_9)]
def lams_weights_below (X : Cx) : Nat → FV := lamsL [(8, .clo (X.env.qual ++ "<lambda>") (LamAt (X.env.qual ++ "<lambda>") X.env.cells lm_8)), (9, .clo (X.env.qual ++ "<lambda>") (LamAt (X.env.qual ++ "<lambda>") X.env.cells lm_9))]
def t_weights_below (Φ : Nat → Mir) : SW := (sSeq (sSet 3 (eOfL (eLc (iSeq' (eVar 1)) (.nm 4) bT (e2 subD (eVar 2) (eVar 4)) [4])))
    (sRet (eCallH 4 M_explored_weights (own_weights_below Φ) Φ (aC (eVar 0) (aC (eVar 3) (aC (eC (.fn 9)) (aC (eC (.fn 8)) aN)))))))
def m_weights_below : Mir := bodyM (fun _ => true) 5 (t_weights_below (fun _ _ => WP.bad))
theorem cal_weights_below (T : Txt P K mg base) {c0 P0 c1 P1 c2 P2 c3 P3 c4 P4 : Addr} (L : TxtL K mg base p.T c0 P0 c1 P1 c2 P2 c3 P3 c4 P4) : Cal P w K mg base p 19 "weights_below" 3 m_weights_below :=
  cal_byM L.t_weights_below.d sc_weights_below rfl lams_weights_below fun f κ A outer s H E hT hlam hmir hh hr => by
    have L : TxtL K mg base κ.p.T c0 P0 c1 P1 c2 P2 c3 P3 c4 P4 := by rw [hT]; exact L
    have M_ := L.t_weights_below
    rw [show t_weights_below (fun _ _ => WP.bad) = t_weights_below κ.p.mir by rw [hmir]]
    have lnm_weights_below : ∀ {l c : Nat}, nm_weights_below l c = ("weights_below.<locals>.<lambda>" : Str) → nm_weights_below l c = (cxOf (L2.CX P w) P w K mg base N_weights_below "weights_below" (defScope st_weights_below) f (.ref c3) A outer s H E).env.qual ++ "<lambda>" := fun h => h.trans (by first | rfl | decide +kernel)
    have hl_8 : κ.p.lam 8 = .clo ((cxOf (L2.CX P w) P w K mg base N_weights_below "weights_below" (defScope st_weights_below) f (.ref c3) A outer s H E).env.qual ++ "<lambda>") (LamAt ((cxOf (L2.CX P w) P w K mg base N_weights_below "weights_below" (defScope st_weights_below) f (.ref c3) A outer s H E).env.qual ++ "<lambda>") (cxOf (L2.CX P w) P w K mg base N_weights_below "weights_below" (defScope st_weights_below) f (.ref c3) A outer s H E).env.cells lm_8) := by rw [hlam]; rfl
    have hl_9 : κ.p.lam 9 = .clo ((cxOf (L2.CX P w) P w K mg base N_weights_below "weights_below" (defScope st_weights_below) f (.ref c3) A outer s H E).env.qual ++ "<lambda>") (LamAt ((cxOf (L2.CX P w) P w K mg base N_weights_below "weights_below" (defScope st_weights_below) f (.ref c3) A outer s H E).env.qual ++ "<lambda>") (cxOf (L2.CX P w) P w K mg base N_weights_below "weights_below" (defScope st_weights_below) f (.ref c3) A outer s H E).env.cells lm_9) := by rw [hlam]; rfl
    have hown : ∀ q ∈ own_weights_below κ.p.mir, CloB (cxOf (L2.CX P w) P w K mg base N_weights_below "weights_below" (defScope st_weights_below) f (.ref c3) A outer s H E) κ 2 q.1 q.2 := (List.forall_mem_cons.mpr ⟨(cloB_lam (k := 1) hl_8 sc_c8 (fun _ _ _ _ _ us hl => match us, hl with | [_], _ => rfl) (hd_8) rfl (fun f c' κ' A outer s H E hp' hr hh => by
        obtain ⟨p', i0', h0', self', sdx'⟩ := κ'
        obtain rfl : p' = κ.p := hp'
        exact (de_ge (de_var (pv 0)) de_int))).mono (by decide), (List.forall_mem_cons.mpr ⟨(cloB_lam (k := 1) hl_9 sc_c9 (fun _ _ _ _ _ us hl => match us, hl with | [_, _], _ => rfl) (hd_9) rfl (fun f c' κ' A outer s H E hp' hr hh => by
        obtain ⟨p', i0', h0', self', sdx'⟩ := κ'
        obtain rfl : p' = κ.p := hp'
        exact (de_fdiv (de_sub (de_var (pv 0)) (de_var (pv 1))) de_int))).mono (by decide), List.forall_mem_nil _⟩)⟩)
    have hV : CloV P w K mg base κ.p 2 (isIn (own_weights_below κ.p.mir)) := cloV_no fun j hj => by rw [hlam]; exact lams_no rfl hj
    exact (dss_cons (ds_setLcv [("part", 4)] rfl rfl sc_weights_below.nd rfl rfl rfl (di_seq (de_var (pv 1))) (blkOk_by (N := N_weights_below) (sc := defScope st_weights_below) (by decide +kernel)) (fun _ _ _ _ _ => by exact (pg_nm (i := 4) sc_weights_below.nd rfl (by first | exact .inl rfl | exact .inr rfl))) (fun _ _ _ _ _ => by exact dts_nil) (fun _ _ _ _ _ => by exact (de_sub (de_var (pv 2)) (de_var (pv 4)))) (by decide))
    (dss_one (ds_ret (de_callH (M := M_explored_weights) (fun p' hT' V' => calh_explored_weights T (hT' ▸ L) _ V') hown hV hh hr (by decide) (by rfl) (takes_of rfl rfl rfl rfl) (da_cons (de_var (pv 0)) (da_cons (de_var (pv 3)) (da_cons (de_lamN M_.tb rfl M_.mem (lnm_weights_below rfl) M_.un hl_9 rfl (ndef_free hd_9)) (da_cons (de_lamN M_.tb rfl M_.mem (lnm_weights_below rfl) M_.un hl_8 rfl (ndef_free hd_8)) da_nil))))))))

/-! law -/
abbrev st_law : Stmt := top 41
abbrev N_law : List Str := ["script", "lap", "y", "v", "odd", "e", "c", "n", "pen", "counter", "location"]
theorem sc_law : FnScope N_law ["script"] (defScope st_law) := ⟨rfl, rfl, rfl, by decide +kernel, rfl, by decide +kernel, by decide +kernel⟩
def lm_10 : Lm := lmE (xArg 4 (xUn (sX ((sB ((defBody st_law).getD 1 sDf)).getD 3 sDf))))
abbrev N_c10 : List Str := ["weight", "c"]
theorem sc_c10 : NdefX.NScope N_c10 ["weight"] ["c"] (lm_10.scope) := NdefX.nscope_by (by decide +kernel)
theorem hd_10 : NdefX.ndefB (defScope st_law) (lm_10.scope) ["c"] = true := by decide +kernel
def te_10 : EW := (e2 eqD (eVar 0) (eVar 1))
def lm_11 : Lm := lmE (xArg 4 (xUn (sX ((sB ((defBody st_law).getD 1 sDf)).getD 4 sDf))))
abbrev N_c11 : List Str := ["weight", "c"]
theorem sc_c11 : NdefX.NScope N_c11 ["weight"] ["c"] (lm_11.scope) := NdefX.nscope_by (by decide +kernel)
theorem hd_11 : NdefX.ndefB (defScope st_law) (lm_11.scope) ["c"] = true := by decide +kernel
def te_11 : EW := (e2 leD (eVar 0) (eVar 1))
def lm_12 : Lm := lmE (xArg 4 (xUn (sX ((sB ((defBody st_law).getD 1 sDf)).getD 5 sDf))))
abbrev N_c12 : List Str := ["weight", "c", "n"]
theorem sc_c12 : NdefX.NScope N_c12 ["weight"] ["c", "n"] (lm_12.scope) := NdefX.nscope_by (by decide +kernel)
theorem hd_12 : NdefX.ndefB (defScope st_law) (lm_12.scope) ["c", "n"] = true := by decide +kernel
def te_12 : EW := (e2 eqD (e2 modD (eBI intD (aC (e2 subD (eVar 0) (eVar 1)) aN)) (eVar 2)) (eC (.int 0)))
def own_law (Φ : Nat → Mir) : List (Nat × (Env' → Mir)) := [(10, cloE 2 1 [6] te_10), (11, cloE 2 1 [6] te_11), (12, cloE 3 1 [6, 7] te_12)]
def lams_law (X : Cx) : Nat → FV := lamsL [(10, .clo (X.env.qual ++ "<lambda>") (LamAt (X.env.qual ++ "<lambda>") X.env.cells lm_10)), (11, .clo (X.env.qual ++ "<lambda>") (LamAt (X.env.qual ++ "<lambda>") X.env.cells lm_11)), (12, .clo (X.env.qual ++ "<lambda>") (LamAt (X.env.qual ++ "<lambda>") X.env.cells lm_12))]
def t_law (Φ : Nat → Mir) : SW := (sSeq (sFor (iOf rng1 (aC (eC (.int 3)) aN)) (.nm 1) (sSeq (sSet 2 (eBI tupL (eLc (iOf rng1 (aC (eCall 2 drawM (aC (eVar 8) (aC (eC (.int 4)) aN))) aN)) (.nm 9) bT (e2 subD (eCall 2 drawM (aC (eVar 8) (aC (eC (.int 11)) aN))) (eC (.int 5))) [9])))
    (sSeq (sSet 3 (eBI tupL (eLc (iOf rng1 (aC (e2 addD (eC (.int 1)) (eCall 2 drawM (aC (eVar 8) (aC (eC (.int 3)) aN)))) aN)) (.nm 10) bT (e2 subD (eCall 2 drawM (aC (eVar 8) (aC (eC (.int 11)) aN))) (eC (.int 5))) [10])))
    (sSeq (sUnp (.cons (.nm 6) (.cons (.nm 7) .nil)) (eTup (aC (e2 subD (eCall 2 drawM (aC (eVar 8) (aC (eC (.int 25)) aN))) (eC (.int 8))) (aC (e2 addD (eC (.int 1)) (eCall 2 drawM (aC (eVar 8) (aC (eC (.int 12)) aN)))) aN))))
    (sSeq (sIf (bNot (bV (eCallH 5 M_law_fits (own_law Φ) Φ (aC (eVar 8) (aC (eCall 3 m_weights_equal (aC (eVar 2) (aC (eVar 3) (aC (eVar 6) aN)))) (aC (eVar 2) (aC (eVar 3) (aC (eC (.fn 10)) aN)))))))) (sRet (eC (.bl false))) sNext)
    (sSeq (sIf (bNot (bV (eCallH 5 M_law_fits (own_law Φ) Φ (aC (eVar 8) (aC (eCall 3 m_weights_below (aC (eOfL (lBI (fun l => listD l) (aC (eVar 2) aN))) (aC (eVar 3) (aC (eVar 6) aN)))) (aC (eVar 2) (aC (eVar 3) (aC (eC (.fn 11)) aN)))))))) (sRet (eC (.bl false))) sNext)
    (sIf (bNot (bV (eCallH 5 M_law_fits (own_law Φ) Φ (aC (eVar 8) (aC (eCall 4 m_weights_like (aC (eVar 2) (aC (eOfL (lBI (fun l => listD l) (aC (eVar 3) aN))) (aC (eVar 7) (aC (eVar 6) aN))))) (aC (eVar 2) (aC (eVar 3) (aC (eC (.fn 12)) aN)))))))) (sRet (eC (.bl false))) sNext)))))))
    (sSeq (sSet 4 (eCall 2 m_law_pick (aC (eVar 8) (aC (eOfL (lLst (aC (eC (.int 0)) (aC (e1 negD (eC (.int 1))) (aC (eC (.bl true)) (aC (eC .non) (aC (eC (.str "2")) (aC (eTup (aC (eC (.int 2)) aN)) (aC (eOfL (lLst (aC (eC (.int 1)) aN))) aN))))))))) aN))))
    (sSeq (sTryE Fw 5 [("BadNumber", fun er x => (sRet (e2 eqD (fun ρ => do let d ← (eTup (aC (eXf 5 er x ["BadNumber"] "what") (aC (eXf 5 er x ["BadNumber"] "number") aN))) ρ; reprD [d]) (fun ρ => do let d ← (eTup (aC (eC (.str "n")) (aC (eVar 4) aN))) ρ; reprD [d]))))] (eCall 4 m_weights_like (aC (eTup (aC (eC (.int 1)) aN)) (aC (eTup (aC (eC (.int 0)) aN)) (aC (eVar 4) (aC (eC (.int 0)) aN))))))
    (sRet (eC (.bl false))))))
abbrev lvL : Nat := 20
theorem law_rest (T : Txt P K mg base) {f : Addr} {c0 P0 c1 P1 c2 P2 c3 P3 c4 P4 : Addr} (κ : Cp) (L : TxtL K mg base κ.p.T c0 P0 c1 P1 c2 P2 c3 P3 c4 P4) (A : Around) (outer : List Env) (s : Shared) (H : Hp) (E : XK) (hlam : κ.p.lam = lams_law (cxOf (L2.CX P w) P w K mg base N_law "law" (defScope st_law) f (.ref c4) A outer s H E)) (hmir : κ.p.mir = fun _ _ => WP.bad) (hh : Cx.Hold (cxOf (L2.CX P w) P w K mg base N_law "law" (defScope st_law) f (.ref c4) A outer s H E) κ.p)
    (hr : Room 20 (A.deeper (envOfC "law" (defScope st_law) s.heap.objs.size f (.ref c4)))) (hgd : A.guards = some []) : DSs (cxOf (L2.CX P w) P w K mg base N_law "law" (defScope st_law) f (.ref c4) A outer s H E) κ E ((defBody st_law).drop 1) (t_law (fun _ _ => WP.bad)) := by
    have M_ := L.t_law
    have hgd : (A.deeper (envOfC "law" (defScope st_law) s.heap.objs.size f (.ref c4))).guards = some [] := hgd
    rw [show t_law (fun _ _ => WP.bad) = t_law κ.p.mir by rw [hmir]]
    have lnm_law : ∀ {l c : Nat}, nm_law l c = ("law.<locals>.<lambda>" : Str) → nm_law l c = (cxOf (L2.CX P w) P w K mg base N_law "law" (defScope st_law) f (.ref c4) A outer s H E).env.qual ++ "<lambda>" := fun h => h.trans (by first | rfl | decide +kernel)
    have hl_10 : κ.p.lam 10 = .clo ((cxOf (L2.CX P w) P w K mg base N_law "law" (defScope st_law) f (.ref c4) A outer s H E).env.qual ++ "<lambda>") (LamAt ((cxOf (L2.CX P w) P w K mg base N_law "law" (defScope st_law) f (.ref c4) A outer s H E).env.qual ++ "<lambda>") (cxOf (L2.CX P w) P w K mg base N_law "law" (defScope st_law) f (.ref c4) A outer s H E).env.cells lm_10) := by rw [hlam]; rfl
    have hl_11 : κ.p.lam 11 = .clo ((cxOf (L2.CX P w) P w K mg base N_law "law" (defScope st_law) f (.ref c4) A outer s H E).env.qual ++ "<lambda>") (LamAt ((cxOf (L2.CX P w) P w K mg base N_law "law" (defScope st_law) f (.ref c4) A outer s H E).env.qual ++ "<lambda>") (cxOf (L2.CX P w) P w K mg base N_law "law" (defScope st_law) f (.ref c4) A outer s H E).env.cells lm_11) := by rw [hlam]; rfl
    have hl_12 : κ.p.lam 12 = .clo ((cxOf (L2.CX P w) P w K mg base N_law "law" (defScope st_law) f (.ref c4) A outer s H E).env.qual ++ "<lambda>") (LamAt ((cxOf (L2.CX P w) P w K mg base N_law "law" (defScope st_law) f (.ref c4) A outer s H E).env.qual ++ "<lambda>") (cxOf (L2.CX P w) P w K mg base N_law "law" (defScope st_law) f (.ref c4) A outer s H E).env.cells lm_12) := by rw [hlam]; rfl
    have hown : ∀ q ∈ own_law κ.p.mir, CloB (cxOf (L2.CX P w) P w K mg base N_law "law" (defScope st_law) f (.ref c4) A outer s H E) κ 2 q.1 q.2 := (List.forall_mem_cons.mpr ⟨(cloB_lam (k := 1) hl_10 sc_c10 (fun _ _ _ _ _ us hl => match us, hl with | [_], _ => rfl) (hd_10) rfl (fun f c' κ' A outer s H E hp' hr hh => by
        obtain ⟨p', i0', h0', self', sdx'⟩ := κ'
        obtain rfl : p' = κ.p := hp'
        exact (de_eq (hu64 hr) (de_var (pv 0)) (de_var (pv 1))))).mono (by decide), (List.forall_mem_cons.mpr ⟨(cloB_lam (k := 1) hl_11 sc_c11 (fun _ _ _ _ _ us hl => match us, hl with | [_], _ => rfl) (hd_11) rfl (fun f c' κ' A outer s H E hp' hr hh => by
        obtain ⟨p', i0', h0', self', sdx'⟩ := κ'
        obtain rfl : p' = κ.p := hp'
        exact (de_le (de_var (pv 0)) (de_var (pv 1))))).mono (by decide), (List.forall_mem_cons.mpr ⟨(cloB_lam (k := 1) hl_12 sc_c12 (fun _ _ _ _ _ us hl => match us, hl with | [_], _ => rfl) (hd_12) rfl (fun f c' κ' A outer s H E hp' hr hh => by
        obtain ⟨p', i0', h0', self', sdx'⟩ := κ'
        obtain rfl : p' = κ.p := hp'
        exact (de_eq (hu64 hr) (de_mod (de_intc (by rfl) T.b_int (da_cons (de_sub (de_var (pv 0)) (de_var (pv 1))) da_nil)) (de_var (pv 2))) de_int))).mono (by decide), List.forall_mem_nil _⟩)⟩)⟩)
    have hV : CloV P w K mg base κ.p 2 (isIn (own_law κ.p.mir)) := cloV_no fun j hj => by rw [hlam]; exact lams_no rfl hj
    exact (dss_cons (ds_for (passes_of rfl) rfl (di_range1 (by rfl) T.b_range (da_cons de_int da_nil)) (pg_nm (i := 1) sc_law.nd rfl (by first | exact .inl rfl | exact .inr rfl)) (dss_cons (ds_set sc_law.nd rfl (by first | exact .inl rfl | exact .inr rfl) (de_tupL (by rfl) T.b_tuple (dl_lcv [("counter", 9)] rfl rfl sc_law.nd (di_range1 (by rfl) T.b_range (da_cons (de_call (cal_law_draw T) hr (by decide) rfl (takes_of rfl rfl rfl rfl) (da_cons (de_var (pv 8)) (da_cons de_int da_nil))) da_nil)) (blkOk_by (N := N_law) (sc := defScope st_law) (by decide +kernel)) (fun _ _ _ _ _ => by exact (pg_nm (i := 9) sc_law.nd rfl (by first | exact .inl rfl | exact .inr rfl))) (fun _ _ _ _ _ => by exact dts_nil) (fun _ _ _ _ _ => by exact (de_sub (de_call (cal_law_draw T) hr (by decide) rfl LamX.takes0 (da_cons (de_var (pv 8)) (da_cons de_int da_nil))) de_int)) (by decide))))
    (dss_cons (ds_set sc_law.nd rfl (by first | exact .inl rfl | exact .inr rfl) (de_tupL (by rfl) T.b_tuple (dl_lcv [("location", 10)] rfl rfl sc_law.nd (di_range1 (by rfl) T.b_range (da_cons (de_add de_int (de_call (cal_law_draw T) hr (by decide) rfl (takes_of rfl rfl rfl rfl) (da_cons (de_var (pv 8)) (da_cons de_int da_nil)))) da_nil)) (blkOk_by (N := N_law) (sc := defScope st_law) (by decide +kernel)) (fun _ _ _ _ _ => by exact (pg_nm (i := 10) sc_law.nd rfl (by first | exact .inl rfl | exact .inr rfl))) (fun _ _ _ _ _ => by exact dts_nil) (fun _ _ _ _ _ => by exact (de_sub (de_call (cal_law_draw T) hr (by decide) rfl LamX.takes0 (da_cons (de_var (pv 8)) (da_cons de_int da_nil))) de_int)) (by decide))))
    (dss_cons (ds_unp (de_tup (da_cons (de_sub (de_call (cal_law_draw T) hr (by decide) rfl (takes_of rfl rfl rfl rfl) (da_cons (de_var (pv 8)) (da_cons de_int da_nil))) de_int) (da_cons (de_add de_int (de_call (cal_law_draw T) hr (by decide) rfl (takes_of rfl rfl rfl rfl) (da_cons (de_var (pv 8)) (da_cons de_int da_nil)))) da_nil))) (pg_tp rfl (pgs_c (pg_nm (i := 6) sc_law.nd rfl (by first | exact .inl rfl | exact .inr rfl)) (pgs_c (pg_nm (i := 7) sc_law.nd rfl (by first | exact .inl rfl | exact .inr rfl)) pgs_n))))
    (dss_cons (ds_if (dt_not (dt_val (de_callH (M := M_law_fits) (fun p' hT' V' => calh_law_fits T _ V') hown hV hh hr (by decide) (by rfl) (takes_of rfl rfl rfl rfl) (da_cons (de_var (pv 8)) (da_cons (de_call (cal_weights_equal T L) hr (by decide) (by rfl) (takes_of rfl rfl rfl rfl) (da_cons (de_var (pv 2)) (da_cons (de_var (pv 3)) (da_cons (de_var (pv 6)) da_nil)))) (da_cons (de_var (pv 2)) (da_cons (de_var (pv 3)) (da_cons (de_lamN M_.tb rfl M_.mem (lnm_law rfl) M_.un hl_10 rfl (ndef_free hd_10)) da_nil)))))))) (dss_one (ds_ret de_bl)) dss_nil)
    (dss_cons (ds_if (dt_not (dt_val (de_callH (M := M_law_fits) (fun p' hT' V' => calh_law_fits T _ V') hown hV hh hr (by decide) (by rfl) (takes_of rfl rfl rfl rfl) (da_cons (de_var (pv 8)) (da_cons (de_call (cal_weights_below T L) hr (by decide) (by rfl) (takes_of rfl rfl rfl rfl) (da_cons (de_ofL (dl_list (by rfl) T.b_list (da_cons (de_var (pv 2)) da_nil))) (da_cons (de_var (pv 3)) (da_cons (de_var (pv 6)) da_nil)))) (da_cons (de_var (pv 2)) (da_cons (de_var (pv 3)) (da_cons (de_lamN M_.tb rfl M_.mem (lnm_law rfl) M_.un hl_11 rfl (ndef_free hd_11)) da_nil)))))))) (dss_one (ds_ret de_bl)) dss_nil)
    (dss_one (ds_if (dt_not (dt_val (de_callH (M := M_law_fits) (fun p' hT' V' => calh_law_fits T _ V') hown hV hh hr (by decide) (by rfl) (takes_of rfl rfl rfl rfl) (da_cons (de_var (pv 8)) (da_cons (de_call (cal_weights_like T L) hr (by decide) (by rfl) (takes_of rfl rfl rfl rfl) (da_cons (de_var (pv 2)) (da_cons (de_ofL (dl_list (by rfl) T.b_list (da_cons (de_var (pv 3)) da_nil))) (da_cons (de_var (pv 7)) (da_cons (de_var (pv 6)) da_nil))))) (da_cons (de_var (pv 2)) (da_cons (de_var (pv 3)) (da_cons (de_lamN M_.tb rfl M_.mem (lnm_law rfl) M_.un hl_12 rfl (ndef_free hd_12)) da_nil)))))))) (dss_one (ds_ret de_bl)) dss_nil))))))))
    (dss_cons (ds_set sc_law.nd rfl (by first | exact .inl rfl | exact .inr rfl) (de_call (cal_law_pick T) hr (by decide) (by rfl) (takes_of rfl rfl rfl rfl) (da_cons (de_var (pv 8)) (da_cons (de_ofL (dl_lst (da_cons de_int (da_cons (de_neg de_int) (da_cons de_bl (da_cons de_non (da_cons de_str (da_cons (de_tup (da_cons de_int da_nil)) (da_cons (de_ofL (dl_lst (da_cons de_int da_nil))) da_nil))))))))) da_nil))))
    (dss_cons (ds_tryE (i := 5) T.fo rfl rfl sc_law.nd rfl rfl (takes_of rfl rfl rfl rfl) (fun W pn xe tk => by exact (de_call (cal_weights_like T L) hr (by decide) (by rfl) tk (da_cons (de_tup (da_cons de_int da_nil)) (da_cons (de_tup (da_cons de_int da_nil)) (da_cons (de_var (pv 4)) (da_cons de_int da_nil)))))) (T.k_BadNumber.ex.elim fun _ hk => HdOk.cons hk.1 (by rfl) (by decide) (fun J er oe d pn x hF hz hf xr => by exact (dss_one (ds_ret (de_eq (by have h_ := hu64 hr; exact h_) (de_repr hgd (by have h_ := hu66 hr; exact h_) (by rfl) T.b_repr (de_tup (da_cons (de_xf (T.k_BadNumber.xfld (by decide)) hz hf xr (pv 5)) (da_cons (de_xf (T.k_BadNumber.xfld (by decide)) hz hf xr (pv 5)) da_nil)))) (de_repr hgd (by have h_ := hu66 hr; exact h_) (by rfl) T.b_repr (de_tup (da_cons de_str (da_cons (de_var (pv 4)) da_nil)))))))) HdOk.nil))
    (dss_one (ds_ret de_bl)))))
end
end K24
end
section
set_option Elab.async false
set_option autoImplicit false
set_option linter.all false
set_option maxRecDepth 100000
set_option maxHeartbeats 4000000
/-! the law from its script on: printed by mkc6.py -/
namespace K24
open PySem PySem.Spec PyProof.Rows L2 L2.NW
def tbs (P0 P1 P2 P3 P4 : Addr) : List NdefX.NTab := [(P0, nm_least), (P1, nm_weights_like), (P2, nm_weights_equal), (P3, nm_weights_below), (P4, nm_law)]
def start0 : Env' := (List.replicate N_law.length .no).set 8 (.val .pen)
def LawTrue : Prop := (t_law (fun _ _ => WP.bad) start0).run 1000000000000 (fun f _ => f = .rt (.bl true)) (fun _ _ => False)
def spLaw (K : PySem.W.Frag) (P0 P1 P2 P3 P4 : Addr) : Sp := fun vs H Q _ => ∃ (a : Addr) (ns : List Int), vs = [.ref a] ∧ SqL K H a (ns.map V.int) ∧ ns.length ≤ 63 ∧ (H P0 = some (.tbl #[]) ∧ H P1 = some (.tbl #[]) ∧ H P2 = some (.tbl #[]) ∧ H P3 = some (.tbl #[]) ∧ H P4 = some (.tbl #[])) ∧ ∀ H', Q (.bl true) H'
/-- the law's own world: the pen apart, the tables apart -/
def worldI (H : Hp) (p ca : Addr) (ns : List Int) : Hp := upd (fun b => if b = p then none else match H b with | some (.tbl _) => none | o => o) ca (some (HO.lst (ns.map V.int)) |>.getD (.lst []))
section
variable {P : Program} {w : World} {K : PySem.W.Frag} {mg : Str → Option Value} {base : Heap}
abbrev st_law_pen : Stmt := top 30
theorem sc_law_pen : FnScope nPen ["script"] (defScope st_law_pen) := ⟨rfl, rfl, rfl, by decide +kernel, rfl, by decide +kernel, by decide +kernel⟩
theorem ok_pen {f : Addr} {fd : FuncData} (T : Txt P K mg base) (F : Fun K "_law_pen" "_law_pen" st_law_pen f fd) : FnOk P w K mg base (L2.CX P w) 2 f fd ["script"] (spPen K) := by
  refine F.okX (k := 1) sc_law_pen (fun vs H Q E h => ?_) (fun cdv A outer s H vs Q E hr h => ⟨t_pen K, ?_, pure_pen h⟩)
  · obtain ⟨a, ns, rfl, _⟩ := h
    rfl
  · exact pss_cons (ps_set (i := 1) sc_law_pen.nd rfl (Or.inl rfl) pe_int) (pss_cons (ps_for (passes_of rfl) rfl (pi_list (pv 0)) (pg_name (i := 2) sc_law_pen.nd rfl (Or.inl rfl))
      (pss_one (ps_set (i := 1) sc_law_pen.nd rfl (Or.inl rfl) (pe_op op_mod (pe_callTy call_int1 (by rfl) T.b_int (by decide +kernel) (pa_cons (pe_op op_add (pe_op op_mul (pv 1) pe_int) (pv 2)) pa_nil)) pe_int))))
      (pss_one (ps_ret (pe_disp (pps_cons pe_str (pe_callTy call_list_of (by rfl) T.b_list (by decide +kernel) (pa_cons (pv 0) pa_nil)) (pps_cons pe_str pe_int (pps_cons pe_str pe_int (pps_cons pe_str pe_int (pps_cons pe_str (pv 1) pps_nil))))) rfl rfl (by decide) (by decide)))))
/-- what stands ahead of the law's second line: the script's ints at ca, the pen at p -/
abbrev penH (H : Hp) (p ca : Addr) (ns : List Int) (z : Int) : Hp := upd (upd H ca (.lst (ns.map V.int))) p (.dK (penKvs ca ⟨ns, 0, 0, 0, z⟩))
def pt (p P0 P1 P2 P3 P4 : Addr) (lam : Nat → FV) : Pt := { a := p, T := tbs P0 P1 P2 P3 P4, lam := lam }
theorem world_ok {S : Sx} {H : Hp} {p ca P0 P1 P2 P3 P4 : Addr} {ns : List Int} {z : Int} {lam : Nat → FV} (hp : H p = none) (hca : H ca = none) (npc : p ≠ ca) (hT : H P0 = some (.tbl #[]) ∧ H P1 = some (.tbl #[]) ∧ H P2 = some (.tbl #[]) ∧ H P3 = some (.tbl #[]) ∧ H P4 = some (.tbl #[])) (hl : ns.length ≤ 63) (z0 : 0 ≤ z) (z1 : z < 2147483587) :
    SR ⟨S.K, S.mg, pt p P0 P1 P2 P3 P4 lam, S.w⟩ (worldI H p ca ns) (penH H p ca ns z) 1000000000000 := by
  have old : ∀ b o, H b = some o → penH H p ca ns z b = some o := fun b o e => by
    show upd (upd H ca _) p _ b = _
    rw [upd_ne (ne_of_none e hp), upd_ne (ne_of_none e hca)]; exact e
  have wca : worldI H p ca ns ca = some (.lst (ns.map V.int)) := upd_same
  have wp : worldI H p ca ns p = none := by show upd _ ca _ p = none; rw [upd_ne npc]; exact if_pos rfl
  have wb : ∀ b, b ≠ ca → b ≠ p → worldI H p ca ns b = match H b with | some (.tbl _) => none | o => o := fun b h1 h2 => by show upd _ ca _ b = _; rw [upd_ne h1]; exact if_neg h2
  have from_ : ∀ b o, worldI H p ca ns b = some o → (b = ca ∧ o = .lst (ns.map V.int)) ∨ (b ≠ ca ∧ H b = some o ∧ ¬ isTbl o) := fun b o e => by
    by_cases h1 : b = ca
    · subst h1; rw [wca] at e; exact .inl ⟨rfl, (Option.some.inj e).symm⟩
    · by_cases h2 : b = p
      · rw [h2, wp] at e; cases e
      · rw [wb b h1 h2] at e
        cases hb : H b with
        | none => rw [hb] at e; cases e
        | some u => cases u <;> rw [hb] at e <;> first | (cases e; exact .inr ⟨h1, rfl, id⟩) | cases e
  refine ⟨fun b o e => ?_, wp, ⟨ca, ⟨ns, 0, 0, 0, z⟩, upd_same, wca, ⟨hl, Int.le_refl _, Int.le_refl _, (show (0 : Int) + ((1000000000000 : Nat) : Int) ≤ 1000000000000 by decide), z0, z1⟩⟩, fun c hc => ?_, fun c q e => ?_, fun c q e => ?_, fun a o e => nomatch e⟩
  · rcases from_ b o e with ⟨rfl, rfl⟩ | ⟨_, h, _⟩
    · show upd (upd H b _) p _ b = _; rw [upd_ne (Ne.symm npc), upd_same]
    · exact old b o h
  · have hc : c ∈ tbs P0 P1 P2 P3 P4 := hc
    simp only [tbs, List.mem_cons, List.not_mem_nil, or_false] at hc
    rcases hc with rfl | rfl | rfl | rfl | rfl
    · exact NdefX.TabN.nil (old _ _ hT.1)
    · exact NdefX.TabN.nil (old _ _ hT.2.1)
    · exact NdefX.TabN.nil (old _ _ hT.2.2.1)
    · exact NdefX.TabN.nil (old _ _ hT.2.2.2.1)
    · exact NdefX.TabN.nil (old _ _ hT.2.2.2.2)
  · rcases from_ c _ e with ⟨_, h⟩ | ⟨_, _, h⟩
    · cases h
    · exact h trivial
  · by_cases h1 : c = p
    · rw [h1] at e; exact absurd (Option.some.inj ((upd_same (H := upd H ca (.lst (ns.map V.int)))).symm.trans e)) (plain_dK.2 _ _)
    · by_cases h2 : c = ca
      · have e' : upd (upd H ca (.lst (ns.map V.int))) p _ c = _ := e
        rw [upd_ne h1, h2, upd_same] at e'; exact absurd (Option.some.inj e') (plain_lst.2 _ _)
      · have e' : upd (upd H ca _) p _ c = _ := e
        rw [upd_ne h1, upd_ne h2] at e'
        rw [wb c h2 h1, e']; rfl
/-- the pen stands; the rest of law is true -/
theorem first_run {S : Sx} {H : Hp} {p ca a P0 P1 P2 P3 P4 : Addr} {ns : List Int} {z : Int} {lam : Nat → FV} {Q : VK} {E : XK} (LT : LawTrue) (hp : H p = none) (hca : H ca = none) (npc : p ≠ ca) (hT : H P0 = some (.tbl #[]) ∧ H P1 = some (.tbl #[]) ∧ H P2 = some (.tbl #[]) ∧ H P3 = some (.tbl #[]) ∧ H P4 = some (.tbl #[])) (hl : ns.length ≤ 63) (z0 : 0 ≤ z) (z1 : z < 2147483587) (k : ∀ H', Q (.bl true) H') :
    ∃ κ : Cp, (∃ p, κ.p = pt p P0 P1 P2 P3 P4 lam) ∧ tDS ⟨S.K, S.mg, κ.p, S.w⟩ κ E (t_law (fun _ _ => WP.bad)) { nx := fun _ H' => Q .non H', rt := Q } ((L2.start N_law [.ref a]).set 8 (some (.ref p))) (penH H p ca ns z) := by
  have begins : ∀ (i : Nat) (s : Sl), start0[i]? = some s → (i = 8 ∧ s = .val .pen) ∨ s = .no := fun i s h => by
    unfold start0 at h
    by_cases hi : 8 = i
    · subst hi
      rw [List.getElem?_set_self (by decide)] at h
      exact .inl ⟨rfl, (Option.some.inj h).symm⟩
    · rw [List.getElem?_set_ne hi, List.getElem?_replicate] at h
      split at h
      · exact .inr (Option.some.inj h).symm
      · cases h
  refine ⟨⟨pt p P0 P1 P2 P3 P4 lam, worldI H p ca ns, penH H p ca ns z, 0, 0⟩, ⟨p, rfl⟩, worldI H p ca ns, start0, 1000000000000, ⟨world_ok hp hca npc hT hl z0 z1, ⟨by simp [start0, L2.start], fun i s o h1 h2 => ?_, fun i j s t b h1 _ o1 _ _ _ => ?_⟩, .refl⟩, WP.mono _ LT (fun f b h => ?_) fun _ _ h => h.elim⟩
  · rcases begins i s h1 with ⟨e1, e2⟩ | e2
    · subst e1; subst e2
      rw [List.getElem?_set_self (by simp [L2.start])] at h2
      cases h2
      exact ⟨_, rfl, by simp [Rp, pt]⟩
    · subst e2; trivial
  · rcases begins i s h1 with ⟨_, e⟩ | e <;> subst e <;> cases o1
  · subst h
    intro v I' H' _ _ r
    simp only [Rp] at r
    subst r
    exact k H'
theorem ok_law (LT : LawTrue) (T : Txt P K mg base) {c0 P0 c1 P1 c2 P2 c3 P3 c4 P4 : Addr} (L : TxtL K mg base (tbs P0 P1 P2 P3 P4) c0 P0 c1 P1 c2 P2 c3 P3 c4 P4) (TP : DefOk K mg "_law_pen" st_law_pen ["script"]) {fa : Addr} {oc doc pm ct kV : Value} {an od : Option Addr} {osl : Array (Option Value)}
    (lk : K.lookup fa = some ⟨oc, od, .func (PySem.W.fnOf "law" "law" (defArgs st_law) (defBody st_law) (defScope st_law) .none kV doc pm an (.ref c4) ct), osl⟩) (hcd : PySem.W.codeIn K (.ref c4) "law" = true) :
    RunG P w K mg base (L2.CX P w) (lvL + 1) fa (PySem.W.fnOf "law" "law" (defArgs st_law) (defBody st_law) (defScope st_law) .none kV doc pm an (.ref c4) ct) ["script"] (spLaw K P0 P1 P2 P3 P4) := by
  obtain ⟨fP, fdP, hmP, FP, hbP⟩ := TP
  have GP := ok_pen (w := w) T FP
  refine fun A s H args us vs Q E hg hr0 env hb rel ⟨a, ns, e, hS, hl, hT, k⟩ => ?_
  subst e
  have hr := hr0.deeper (envOfC "law" (defScope st_law) s.heap.objs.size fa (.ref c4))
  refine enter_at lk hcd sc_law hr0 env hb rel rfl ⟨_, pss_cons (ps_set (i := 8) sc_law.nd rfl (by first | exact .inl rfl | exact .inr rfl) (pe_callSD (E := fun σ => WE (wOf E) σ) GP (hr.mono (by decide)) rfl hmP FP.kp hbP (dvs := []) (ds := []) .nil (fun σ => passAt (takes_of rfl rfl rfl rfl) σ) (pa_cons (pv 0) pa_nil)))
    (⟨fun pins s' σ G D I ⟨κ, ⟨p, hκ⟩, h⟩ => (law_rest (w := w) T κ (by rw [hκ]; exact L) A [] s H E (by rw [hκ]; rfl) (by rw [hκ]; rfl) (fun _ _ _ _ _ q hq => by rw [hκ] at hq; exact nomatch hq) hr hg).run pins s' σ G D I h⟩ : PSs _ ((defBody st_law).drop 1) (fun D σ G => ∃ κ : Cp, (∃ p, κ.p = pt p P0 P1 P2 P3 P4 (lams_law (cxOf (L2.CX P w) P w K mg base N_law "law" (defScope st_law) fa (.ref c4) A [] s H E))) ∧ tDS ⟨K, mg, κ.p, w⟩ κ E (t_law (fun _ _ => WP.bad)) D σ G)), ?_⟩
  exact ⟨.ref a, rfl, a, ns, rfl, hS, hl, fun p ca z hp hca npc z0 z1 => first_run (S := ⟨K, mg, pt p P0 P1 P2 P3 P4 (lams_law (cxOf (L2.CX P w) P w K mg base N_law "law" (defScope st_law) fa (.ref c4) A [] s H E)), w⟩) LT hp hca npc hT hl z0 z1 k⟩
end
/-- a def with function values in it, as the head shows it -/
def Hd (K : PySem.W.Frag) (mg : Str → Option Value) (h : Heap) (x : Str) (st : Stmt) (ps : List Str) (c P : Addr) : Prop := DefOkC K mg x st ps c ∧ h.get? P = some { cls := .none, data := .fields #[] } ∧ K.lookup P = none ∧ PySem.W.CodeHd h c P
/-- law as the head wants it -/
theorem law_at (LT : LawTrue) {l : PySem.W.OpenLaw} {w : World} {K : PySem.W.Frag} {mg : Str → Option Value} {fa c0 P0 c1 P1 c2 P2 c3 P3 c4 P4 : Addr} {h : Heap} (KX : K.In h) (G : h.Ns mainGlobals mg) (hfa : mg "law" = some (.ref fa))
    (T : ∀ base, Txt l.prog K mg base) (TP : DefOk K mg "_law_pen" st_law_pen ["script"])
    (B0 : Hd K mg h "least" st_least ["lot"] c0 P0) (B1 : Hd K mg h "weights_like" st_weights_like ["y", "v", "n", "c"] c1 P1) (B2 : Hd K mg h "weights_equal" st_weights_equal ["y", "v", "c"] c2 P2) (B3 : Hd K mg h "weights_below" st_weights_below ["y", "v", "c"] c3 P3) (B4 : Hd K mg h "law" st_law ["script"] c4 P4) (dist : P0 ≠ P1 ∧ P0 ≠ P2 ∧ P0 ≠ P3 ∧ P0 ≠ P4 ∧ P1 ≠ P2 ∧ P1 ≠ P3 ∧ P1 ≠ P4 ∧ P2 ≠ P3 ∧ P2 ≠ P4 ∧ P3 ≠ P4) : LawAtG l w K (L2.CX l.prog w) (lvL + 1) 63 "script" mg fa h := by
  obtain ⟨d0, B0⟩ := B0
  obtain ⟨d1, B1⟩ := B1
  obtain ⟨d2, B2⟩ := B2
  obtain ⟨d3, B3⟩ := B3
  obtain ⟨d4, B4⟩ := B4
  obtain ⟨n0_1, n0_2, n0_3, n0_4, n1_2, n1_3, n1_4, n2_3, n2_4, n3_4⟩ := dist
  have dL := d4
  obtain ⟨f, oc, kV, doc, pm, ct, an, od, osl, hm, lk, hcd, kf, hb⟩ := d4
  obtain rfl : fa = f := by have z := hfa.symm.trans hm; cases z; rfl
  have far : ∀ q ∈ tbs P0 P1 P2 P3 P4, ∀ r ∈ tbs P0 P1 P2 P3 P4, q.1 = r.1 → q.2 = r.2 := List.forall_mem_cons.mpr ⟨List.forall_mem_cons.mpr ⟨fun _ => rfl, List.forall_mem_cons.mpr ⟨fun e => absurd e n0_1, List.forall_mem_cons.mpr ⟨fun e => absurd e n0_2, List.forall_mem_cons.mpr ⟨fun e => absurd e n0_3, List.forall_mem_cons.mpr ⟨fun e => absurd e n0_4, List.forall_mem_nil _⟩⟩⟩⟩⟩, List.forall_mem_cons.mpr ⟨List.forall_mem_cons.mpr ⟨fun e => absurd e.symm n0_1, List.forall_mem_cons.mpr ⟨fun _ => rfl, List.forall_mem_cons.mpr ⟨fun e => absurd e n1_2, List.forall_mem_cons.mpr ⟨fun e => absurd e n1_3, List.forall_mem_cons.mpr ⟨fun e => absurd e n1_4, List.forall_mem_nil _⟩⟩⟩⟩⟩, List.forall_mem_cons.mpr ⟨List.forall_mem_cons.mpr ⟨fun e => absurd e.symm n0_2, List.forall_mem_cons.mpr ⟨fun e => absurd e.symm n1_2, List.forall_mem_cons.mpr ⟨fun _ => rfl, List.forall_mem_cons.mpr ⟨fun e => absurd e n2_3, List.forall_mem_cons.mpr ⟨fun e => absurd e n2_4, List.forall_mem_nil _⟩⟩⟩⟩⟩, List.forall_mem_cons.mpr ⟨List.forall_mem_cons.mpr ⟨fun e => absurd e.symm n0_3, List.forall_mem_cons.mpr ⟨fun e => absurd e.symm n1_3, List.forall_mem_cons.mpr ⟨fun e => absurd e.symm n2_3, List.forall_mem_cons.mpr ⟨fun _ => rfl, List.forall_mem_cons.mpr ⟨fun e => absurd e n3_4, List.forall_mem_nil _⟩⟩⟩⟩⟩, List.forall_mem_cons.mpr ⟨List.forall_mem_cons.mpr ⟨fun e => absurd e.symm n0_4, List.forall_mem_cons.mpr ⟨fun e => absurd e.symm n1_4, List.forall_mem_cons.mpr ⟨fun e => absurd e.symm n2_4, List.forall_mem_cons.mpr ⟨fun e => absurd e.symm n3_4, List.forall_mem_cons.mpr ⟨fun _ => rfl, List.forall_mem_nil _⟩⟩⟩⟩⟩, List.forall_mem_nil _⟩⟩⟩⟩⟩
  have all : ∀ p ∈ [(c0, P0), (c1, P1), (c2, P2), (c3, P3), (c4, P4)], h.get? p.2 = some { cls := .none, data := .fields #[] } ∧ K.lookup p.2 = none ∧ PySem.W.CodeHd h p.1 p.2 := List.forall_mem_cons.mpr ⟨B0, List.forall_mem_cons.mpr ⟨B1, List.forall_mem_cons.mpr ⟨B2, List.forall_mem_cons.mpr ⟨B3, List.forall_mem_cons.mpr ⟨B4, List.forall_mem_nil _⟩⟩⟩⟩⟩
  refine ⟨_, [(c0, P0), (c1, P1), (c2, P2), (c3, P3), (c4, P4)], spLaw K P0 P1 P2 P3 P4, all, fun s u => .of_eq rfl, fun H a ns hl hT hS => ⟨a, ns, rfl, hS, hl, ⟨hT _ (List.mem_cons_self ..), hT _ (List.mem_cons_of_mem _ (List.mem_cons_self ..)), hT _ (List.mem_cons_of_mem _ (List.mem_cons_of_mem _ (List.mem_cons_self ..))), hT _ (List.mem_cons_of_mem _ (List.mem_cons_of_mem _ (List.mem_cons_of_mem _ (List.mem_cons_self ..)))), hT _ (List.mem_cons_of_mem _ (List.mem_cons_of_mem _ (List.mem_cons_of_mem _ (List.mem_cons_of_mem _ (List.mem_cons_self ..)))))⟩, fun _ => rfl⟩, fun base _ _ tb => ok_law LT (T base) ⟨⟨d0, tb _ (List.mem_cons_self ..), (List.mem_cons_self ..), fun q hq e => far q hq _ (List.mem_cons_self ..) e⟩, ⟨d1, tb _ (List.mem_cons_of_mem _ (List.mem_cons_self ..)), (List.mem_cons_of_mem _ (List.mem_cons_self ..)), fun q hq e => far q hq _ (List.mem_cons_of_mem _ (List.mem_cons_self ..)) e⟩, ⟨d2, tb _ (List.mem_cons_of_mem _ (List.mem_cons_of_mem _ (List.mem_cons_self ..))), (List.mem_cons_of_mem _ (List.mem_cons_of_mem _ (List.mem_cons_self ..))), fun q hq e => far q hq _ (List.mem_cons_of_mem _ (List.mem_cons_of_mem _ (List.mem_cons_self ..))) e⟩, ⟨d3, tb _ (List.mem_cons_of_mem _ (List.mem_cons_of_mem _ (List.mem_cons_of_mem _ (List.mem_cons_self ..)))), (List.mem_cons_of_mem _ (List.mem_cons_of_mem _ (List.mem_cons_of_mem _ (List.mem_cons_self ..)))), fun q hq e => far q hq _ (List.mem_cons_of_mem _ (List.mem_cons_of_mem _ (List.mem_cons_of_mem _ (List.mem_cons_self ..)))) e⟩, ⟨dL, tb _ (List.mem_cons_of_mem _ (List.mem_cons_of_mem _ (List.mem_cons_of_mem _ (List.mem_cons_of_mem _ (List.mem_cons_self ..))))), (List.mem_cons_of_mem _ (List.mem_cons_of_mem _ (List.mem_cons_of_mem _ (List.mem_cons_of_mem _ (List.mem_cons_self ..))))), fun q hq e => far q hq _ (List.mem_cons_of_mem _ (List.mem_cons_of_mem _ (List.mem_cons_of_mem _ (List.mem_cons_of_mem _ (List.mem_cons_self ..))))) e⟩⟩ TP lk hcd⟩
end K24
end
section
set_option Elab.async false
set_option autoImplicit false
set_option linter.all false
set_option maxRecDepth 100000
set_option maxHeartbeats 4000000
/-! facts of the written part: printed -/
namespace K24
open PySem PySem.Spec PyProof.Rows L2 L2.NW
section
variable {K : PySem.W.Frag} {mg : Str → Option Value} {h : Heap}
theorem mk_ins {x : Str} {C : Addr} (X : K.In h) (G : h.Ns mainGlobals mg) (a : PySem.W.nsIn K mainGlobals x = some (some (.ref C))) (pg : PySem.W.plainGet K C Str.empty = true) (hd : PySem.W.hasDictIn K C = true) (po : PySem.W.plainOver K C = true) (sa : PySem.W.findIn K (.ref C) "__setattr__" = some (some (.builtin "object.__setattr__")))
    (ha : PySem.W.findIn K (.ref C) "__class__" = some (some (.builtin "object.__class__"))) (hn : PySem.W.specialIn K (.builtin "object.__class__") "__get__" = some (some (.builtin "getset_descriptor.__get__"))) (htk : PySem.W.takesIn K (.builtin "object.__class__") = some true) (hm : PySem.W.mroIn K C (.type "object") = some true)
    (me : PySem.W.kitOne K (.ref C) (.ref C) = some true) : InsOk K mg x := ⟨C, PySem.W.mg_of X G a, ⟨⟨pg, hd, po, sa⟩, ha, hn, htk, hm, me⟩⟩
theorem mk_cs {x tag : Str} {fs : List Str} {C : Addr} (X : K.In h) (G : h.Ns mainGlobals mg) (a : PySem.W.nsIn K mainGlobals x = some (some (.ref C))) (ga : PySem.W.findIn K (.ref C) "__getattribute__" = some (some (.builtin "BaseException.__getattribute__"))) (gg : PySem.W.findIn K (.ref C) "__getattr__" = some none)
    (exC : PySem.W.subIn K (.ref C) (.type "BaseException") = some true) (hdC : PySem.W.hasDictIn K C = true) (noF : ∀ f ∈ fs, PySem.W.findIn K (.ref C) f = some none) (nd : (x == ("__debug__" : Str)) = false) : CsOk K mg Fw ⟨x, tag, fs⟩ := ErrK.cs X G ⟨a, ga, gg, exC, hdC, noF⟩ nd
def tbx (c0 c1 : Addr) : List (Str × Addr) := [("BadLot", c0), ("BadNumber", c1)]
theorem fwx {c0 c1 : Addr} (X : K.In h) (G : h.Ns mainGlobals mg) (a0 : PySem.W.nsIn K mainGlobals "BadLot" = some (some (.ref c0))) (a1 : PySem.W.nsIn K mainGlobals "BadNumber" = some (some (.ref c1)))
    (t : ((tbx c0 c1).all fun p : Str × Addr => (tbx c0 c1).all fun q : Str × Addr => decide (PySem.W.exmOne K (.ref p.2) (.ref q.2) = some (p.1 == q.1))) = true) : FOk K mg Fw := by
  have at_ : ∀ x C, x ∈ eX → mg x = some (.ref C) → (x, C) ∈ tbx c0 c1 := fun x C hx hC => by
    simp only [eX, List.mem_cons, List.not_mem_nil, or_false] at hx
    rcases hx with rfl | rfl
    · have z := hC.symm.trans (PySem.W.mg_of X G a0); cases z; exact List.mem_cons_self ..
    · have z := hC.symm.trans (PySem.W.mg_of X G a1); cases z; exact (List.mem_cons_of_mem _ List.mem_cons_self ..)
  intro x c b C D hf hx hc
  unfold Fw at hf
  split at hf
  · rename_i hm
    cases hf
    have h1 := List.all_eq_true.mp t _ (at_ x C hm.1 hx)
    have h2 := List.all_eq_true.mp h1 _ (at_ c D hm.2 hc)
    refine ⟨of_decide_eq_true h2, fun e => ?_⟩
    have e := beq_iff_eq.mp e
    subst e
    rw [hx] at hc
    cases hc
    rfl
  · cases hf
end
end K24
end
section
set_option Elab.async false
set_option autoImplicit false
set_option linter.all false
set_option maxRecDepth 100000
/-! AuA: what comes up, in its order: a search by breadth over any values. -/
namespace L2.NW.Au
variable {V W : Type}
/-! ### rows without doubles -/
section
variable [DecidableEq V] [DecidableEq W]
def visit (row : List V) (v : V) : List V := if v ∈ row then row else row ++ [v]
def visits (row vs : List V) : List V := vs.foldl visit row
theorem visits_nil (row : List V) : visits row [] = row := rfl
theorem visits_cons (row : List V) (v : V) (vs : List V) : visits row (v :: vs) = visits (visit row v) vs := rfl
theorem visits_append (row vs ws : List V) : visits row (vs ++ ws) = visits (visits row vs) ws := List.foldl_append
theorem visit_pre (row : List V) (v : V) : row <+: visit row v := by
  unfold visit; split
  · exact List.prefix_refl _
  · exact List.prefix_append _ _
theorem visits_pre : ∀ (vs row : List V), row <+: visits row vs
  | [], _ => List.prefix_refl _
  | v :: vs, row => (visit_pre row v).trans (visits_pre vs _)
theorem mem_visit {row : List V} {v x : V} : x ∈ visit row v ↔ x ∈ row ∨ x = v := by
  unfold visit; split
  · rename_i h
    exact ⟨.inl, fun z => z.elim id fun e => e ▸ h⟩
  · simp
theorem mem_visits : ∀ {vs row : List V} {x : V}, x ∈ visits row vs ↔ x ∈ row ∨ x ∈ vs
  | [], row, x => by simp [visits]
  | v :: vs, row, x => by rw [visits_cons, mem_visits, mem_visit, List.mem_cons, or_assoc]
theorem visit_nodup {row : List V} {v : V} (h : row.Nodup) : (visit row v).Nodup := by
  unfold visit; split
  · exact h
  · rename_i n
    rw [List.nodup_append]
    exact ⟨h, List.nodup_cons.mpr ⟨List.not_mem_nil, List.nodup_nil⟩, fun a ha b hb e => n (by rw [List.mem_singleton] at hb; rw [← hb, ← e]; exact ha)⟩
theorem visits_nodup : ∀ {vs row : List V}, row.Nodup → (visits row vs).Nodup
  | [], _, h => h
  | v :: vs, _, h => visits_nodup (vs := vs) (visit_nodup h)
/-- a map that keeps things apart goes through -/
theorem visit_map {φ : V → W} {row : List V} {v : V} (inj : ∀ x ∈ row, φ x = φ v → x = v) : visit (row.map φ) (φ v) = (visit row v).map φ := by
  unfold visit
  by_cases h : v ∈ row
  · rw [if_pos h, if_pos (List.mem_map.mpr ⟨v, h, rfl⟩)]
  · rw [if_neg h, if_neg, List.map_append]
    · rfl
    · intro z
      obtain ⟨x, hx, e⟩ := List.mem_map.mp z
      exact h (inj x hx e ▸ hx)
theorem visits_map {φ : V → W} : ∀ {vs row : List V}, (∀ x, x ∈ row ∨ x ∈ vs → ∀ y, y ∈ row ∨ y ∈ vs → φ x = φ y → x = y) → visits (row.map φ) (vs.map φ) = (visits row vs).map φ
  | [], _, _ => rfl
  | v :: vs, row, inj => by
    rw [List.map_cons, visits_cons, visits_cons, visit_map fun x hx e => inj x (.inl hx) v (.inr (List.mem_cons_self ..)) e]
    refine visits_map fun x hx y hy e => inj x ?_ y ?_ e
    · rcases hx with hx | hx
      · rcases mem_visit.mp hx with h | h
        · exact .inl h
        · exact .inr (h ▸ List.mem_cons_self ..)
      · exact .inr (List.mem_cons_of_mem _ hx)
    · rcases hy with hy | hy
      · rcases mem_visit.mp hy with h | h
        · exact .inl h
        · exact .inr (h ▸ List.mem_cons_self ..)
      · exact .inr (List.mem_cons_of_mem _ hy)
/-! ### sizes -/
theorem nodup_le [DecidableEq V] : ∀ {l m : List V}, l.Nodup → (∀ x ∈ l, x ∈ m) → l.length ≤ m.length
  | [], m, _, _ => Nat.zero_le _
  | a :: l, m, nd, sub => by
    have ⟨na, nd'⟩ := List.nodup_cons.mp nd
    have ha : a ∈ m := sub a (List.mem_cons_self ..)
    have ih := nodup_le (l := l) (m := m.erase a) nd' fun x hx => (List.mem_erase_of_ne fun e => na (by rw [← e]; exact hx)).mpr (sub x (List.mem_cons_of_mem _ hx))
    have hl := List.length_erase_of_mem ha
    have hp := List.length_pos_of_mem ha
    rw [List.length_cons]
    omega
def ixOf {α : Type} [DecidableEq α] (l : List α) (x : α) : Nat := l.idxOf x
theorem ixOf_lt {α : Type} [DecidableEq α] {l : List α} {x : α} : ixOf l x < l.length ↔ x ∈ l := List.idxOf_lt_length_iff
theorem nodup_at {α : Type} {l : List α} {i j : Nat} {x : α} (nd : l.Nodup) (h : l[i]? = some x) (g : l[j]? = some x) : i = j := by
  obtain ⟨hi, e1⟩ := List.getElem?_eq_some_iff.mp h
  obtain ⟨hj, e2⟩ := List.getElem?_eq_some_iff.mp g
  have p := List.pairwise_iff_getElem.mp nd
  rcases Nat.lt_trichotomy i j with z | z | z
  · exact absurd (e1.trans e2.symm) (p i j hi hj z)
  · exact z
  · exact absurd (e2.trans e1.symm) (p j i hj hi z)
theorem idxOf_at {l : List V} {i : Nat} {x : V} (nd : l.Nodup) (h : l[i]? = some x) : ixOf l x = i := by
  unfold ixOf
  have hm : x ∈ l := List.mem_of_getElem? h
  have h1 : l.idxOf x < l.length := List.idxOf_lt_length_iff.mpr hm
  have h2 : l[l.idxOf x]? = some x := by rw [List.getElem?_eq_getElem h1]; simp
  exact nodup_at nd h2 h
theorem at_idxOf {l : List V} {x : V} (h : x ∈ l) : l[ixOf l x]? = some x := by
  unfold ixOf
  have h1 : l.idxOf x < l.length := List.idxOf_lt_length_iff.mpr h
  rw [List.getElem?_eq_getElem h1]; simp
theorem idxOf_pre {l m : List V} {x : V} (p : l <+: m) (h : x ∈ l) : ixOf m x = ixOf l x := by
  unfold ixOf
  obtain ⟨t, rfl⟩ := p
  rw [List.idxOf_append, if_pos h]
theorem idxOf_map {φ : V → W} {l : List V} {x : V} (inj : ∀ y ∈ l, φ y = φ x → y = x) : ixOf (l.map φ) (φ x) = ixOf l x := by
  unfold ixOf
  induction l with
  | nil => rfl
  | cons y l ih =>
    rw [List.map_cons, List.idxOf_cons, List.idxOf_cons, ih fun z hz => inj z (List.mem_cons_of_mem _ hz)]
    by_cases e : y = x
    · subst e; simp only [beq_self_eq_true]
    · have n : φ y ≠ φ x := fun z => e (inj y (List.mem_cons_self ..) z)
      rw [beq_false_of_ne e, beq_false_of_ne n]
/-- the search: k of the row are looked at -/
inductive Come (nx : V → List V) : List V → Nat → List V → Prop
  | done {row : List V} : Come nx row row.length row
  | more {row R : List V} {k : Nat} {v : V} (h : row[k]? = some v) (t : Come nx (visits row (nx v)) (k + 1) R) : Come nx row k R
theorem Come.one {nx : V → List V} {row : List V} {k : Nat} {R R' : List V} (h : Come nx row k R) : Come nx row k R' → R = R' := by
  induction h with
  | done => intro h'; cases h' with
    | done => rfl
    | more h _ => rw [List.getElem?_eq_none (Nat.le_refl _)] at h; cases h
  | more h t ih => intro h'; cases h' with
    | done => rw [List.getElem?_eq_none (Nat.le_refl _)] at h; cases h
    | more h2 t2 =>
      rw [h] at h2
      cases h2
      exact ih t2
theorem Come.pre {nx : V → List V} {row : List V} {k : Nat} {R : List V} (h : Come nx row k R) : row <+: R := by
  induction h with
  | done => exact List.prefix_refl _
  | more h t ih => exact (visits_pre _ _).trans ih
theorem Come.nodup {nx : V → List V} {row : List V} {k : Nat} {R : List V} (h : Come nx row k R) (nd : row.Nodup) : R.Nodup := by
  induction h with
  | done => exact nd
  | more h t ih => exact ih (visits_nodup nd)
theorem Come.le {nx : V → List V} {row : List V} {k : Nat} {R : List V} (h : Come nx row k R) : k ≤ R.length := by
  induction h with
  | done => exact Nat.le_refl _
  | more h t ih => omega
theorem pre_at {l m : List V} {i : Nat} {x : V} (p : l <+: m) (h : l[i]? = some x) : m[i]? = some x := by
  obtain ⟨t, rfl⟩ := p
  have hi := (List.getElem?_eq_some_iff.mp h).1
  rw [List.getElem?_append_left hi]; exact h
/-- all that is looked at leads into the row -/
theorem Come.closed {nx : V → List V} {row : List V} {k : Nat} {R : List V} (h : Come nx row k R) (z : ∀ i v, i < k → row[i]? = some v → ∀ w ∈ nx v, w ∈ row) : ∀ v ∈ R, ∀ w ∈ nx v, w ∈ R := by
  induction h with
  | done =>
    intro v hv w hw
    obtain ⟨i, hi, e⟩ := List.getElem_of_mem hv
    exact z i v hi (by rw [List.getElem?_eq_getElem hi, e]) w hw
  | @more row R k v h t ih =>
    refine ih fun i u hi hu w hw => ?_
    by_cases e : i = k
    · subst e
      have hv := pre_at (visits_pre (nx v) row) h
      rw [hv] at hu
      cases hu
      exact mem_visits.mpr (.inr hw)
    · have hi' : i < row.length := by have := (List.getElem?_eq_some_iff.mp h).1; omega
      have h2 : row[i]? = some row[i] := List.getElem?_eq_getElem hi'
      have h3 := pre_at (visits_pre (nx v) row) h2
      rw [h3] at hu
      cases hu
      exact mem_visits.mpr (.inl (z i _ (by omega) h2 w hw))
/-- what holds of the row, and goes on, holds of all -/
theorem Come.all {nx : V → List V} {row : List V} {k : Nat} {R : List V} {P : V → Prop} (h : Come nx row k R) (z : ∀ v ∈ row, P v) (s : ∀ v, P v → ∀ w ∈ nx v, P w) : ∀ v ∈ R, P v := by
  induction h with
  | done => exact z
  | more h t ih => exact ih fun v hv => (mem_visits.mp hv).elim (z v) (s _ (z _ (List.mem_of_getElem? h)) v)
theorem Come.map {nx : V → List V} {ny : W → List W} {φ : V → W} {row : List V} {k : Nat} {R : List V} {P : V → Prop} (h : Come nx row k R) (z : ∀ v ∈ row, P v) (s : ∀ v, P v → ∀ w ∈ nx v, P w) (inj : ∀ v, P v → ∀ w, P w → φ v = φ w → v = w)
    (go : ∀ v, P v → ny (φ v) = (nx v).map φ) : Come ny (row.map φ) k (R.map φ) := by
  induction h with
  | @done row => have := Come.done (nx := ny) (row := row.map φ); rwa [List.length_map] at this
  | @more row R k v h t ih =>
    have pv := z v (List.mem_of_getElem? h)
    refine .more (v := φ v) (by rw [List.getElem?_map, h]; rfl) ?_
    have all : ∀ x, x ∈ row ∨ x ∈ nx v → P x := fun x hx => hx.elim (z x) (s v pv x)
    rw [go v pv, visits_map fun x hx y hy e => inj x (all x hx) y (all y hy) e]
    exact ih fun x hx => all x (mem_visits.mp hx)
/-- within finitely many it ends -/
theorem come_ex {nx : V → List V} (U : List V) (s : ∀ v ∈ U, ∀ w ∈ nx v, w ∈ U) : ∀ (n : Nat) {row : List V} {k : Nat}, row.Nodup → (∀ v ∈ row, v ∈ U) → k ≤ row.length → U.length ≤ n + k → ∃ R, Come nx row k R
  | 0, row, k, nd, sub, hk, hn => by
    have := nodup_le nd sub
    obtain rfl : k = row.length := by omega
    exact ⟨row, .done⟩
  | n + 1, row, k, nd, sub, hk, hn => by
    by_cases e : k = row.length
    · subst e; exact ⟨row, .done⟩
    · have hlt : k < row.length := by omega
      have h : row[k]? = some row[k] := List.getElem?_eq_getElem hlt
      have hv := sub _ (List.mem_of_getElem? h)
      have hp := (visits_pre (nx row[k]) row).length_le
      obtain ⟨R, t⟩ := come_ex U s n (row := visits row (nx row[k])) (k := k + 1) (visits_nodup nd) (fun v hv' => (mem_visits.mp hv').elim (sub v) (s _ hv v)) (by omega) (by omega)
      exact ⟨R, .more h t⟩
/-! ### how many values -/
theorem mem_dedup {l : List V} {x : V} : x ∈ visits [] l ↔ x ∈ l := by rw [mem_visits]; simp
theorem dedup_nodup (l : List V) : (visits [] l).Nodup := visits_nodup List.nodup_nil
theorem dedup_le (l : List V) : (visits [] l).length ≤ l.length := nodup_le (dedup_nodup l) fun _ h => mem_dedup.mp h
end
/-! ### one function tells more apart than another -/
theorem reps_ex {α : Type} {l : List α} {g : α → W} : ∀ ys : List W, (∀ y ∈ ys, ∃ a ∈ l, g a = y) → ∃ as : List α, as.map g = ys ∧ ∀ a ∈ as, a ∈ l
  | [], _ => ⟨[], rfl, fun _ h => nomatch h⟩
  | y :: ys, h => by
    obtain ⟨a, ha, e⟩ := h y (List.mem_cons_self ..)
    obtain ⟨as, h1, h2⟩ := reps_ex ys fun z hz => h z (List.mem_cons_of_mem _ hz)
    exact ⟨a :: as, by rw [List.map_cons, e, h1], fun b hb => (List.mem_cons.mp hb).elim (fun z => z ▸ ha) (h2 b)⟩
theorem inj_of_nodup {α : Type} {g : α → W} : ∀ {as : List α}, (as.map g).Nodup → ∀ a ∈ as, ∀ b ∈ as, g a = g b → a = b
  | [], _, _, h, _, _, _ => nomatch h
  | c :: as, nd, a, ha, b, hb, e => by
    rw [List.map_cons, List.nodup_cons] at nd
    obtain ⟨nd1, nd2⟩ := nd
    rcases List.mem_cons.mp ha with ea | ha
    · rcases List.mem_cons.mp hb with eb | hb
      · rw [ea, eb]
      · exact absurd (List.mem_map.mpr ⟨b, hb, by rw [← e, ea]⟩) nd1
    · rcases List.mem_cons.mp hb with eb | hb
      · exact absurd (List.mem_map.mpr ⟨a, ha, by rw [e, eb]⟩) nd1
      · exact inj_of_nodup nd2 a ha b hb e
theorem finer_nodup {α : Type} {f : α → V} {g : α → W} : ∀ {as : List α}, (∀ a ∈ as, ∀ b ∈ as, f a = f b → g a = g b) → (as.map g).Nodup → (as.map f).Nodup
  | [], _, _ => List.nodup_nil
  | c :: as, h, nd => by
    rw [List.map_cons, List.nodup_cons] at nd ⊢
    refine ⟨fun z => ?_, finer_nodup (fun a ha b hb => h a (List.mem_cons_of_mem _ ha) b (List.mem_cons_of_mem _ hb)) nd.2⟩
    obtain ⟨b, hb, e⟩ := List.mem_map.mp z
    exact nd.1 (List.mem_map.mpr ⟨b, hb, h b (List.mem_cons_of_mem _ hb) c (List.mem_cons_self ..) e⟩)
section
variable [DecidableEq V] [DecidableEq W] {α : Type} {l : List α} {f : α → V} {g : α → W}
/-- f tells apart what g tells apart: it has as many values, or more -/
theorem finer_le (h : ∀ a ∈ l, ∀ b ∈ l, f a = f b → g a = g b) : (visits [] (l.map g)).length ≤ (visits [] (l.map f)).length := by
  obtain ⟨as, e, sub⟩ := reps_ex (l := l) (g := g) (visits [] (l.map g)) fun y hy => by simpa using mem_dedup.mp hy
  have nd := finer_nodup (f := f) (g := g) (as := as) (fun a ha b hb => h a (sub a ha) b (sub b hb)) (e ▸ dedup_nodup _)
  rw [← e, List.length_map, ← List.length_map (f := f)]
  refine nodup_le nd fun x hx => mem_dedup.mpr ?_
  obtain ⟨a, ha, rfl⟩ := List.mem_map.mp hx
  exact List.mem_map.mpr ⟨a, sub a ha, rfl⟩
/-- and if it has no more, it tells no more apart -/
theorem finer_eq (h : ∀ a ∈ l, ∀ b ∈ l, f a = f b → g a = g b) (k : (visits [] (l.map f)).length ≤ (visits [] (l.map g)).length) : ∀ a ∈ l, ∀ b ∈ l, g a = g b → f a = f b := by
  intro a ha b hb eg
  refine Classical.byContradiction fun n => ?_
  obtain ⟨as, e, sub⟩ := reps_ex (l := l) (g := g) (visits [] (l.map g)) fun y hy => by simpa using mem_dedup.mp hy
  have ndg : (as.map g).Nodup := e ▸ dedup_nodup _
  have nd := finer_nodup (f := f) (g := g) (as := as) (fun a ha b hb => h a (sub a ha) b (sub b hb)) ndg
  have out : ∃ c ∈ l, f c ∉ as.map f := by
    refine Classical.byContradiction fun z => ?_
    have all : ∀ c ∈ l, f c ∈ as.map f := fun c hc => Classical.byContradiction fun q => z ⟨c, hc, q⟩
    obtain ⟨r, hr, e1⟩ := List.mem_map.mp (all a ha)
    obtain ⟨q, hq, e2⟩ := List.mem_map.mp (all b hb)
    have g1 := h r (sub r hr) a ha e1
    have g2 := h q (sub q hq) b hb e2
    have := inj_of_nodup ndg r hr q hq (g1.trans (eg.trans g2.symm))
    subst this
    exact n (e1.symm.trans e2)
  obtain ⟨c, hc, nc⟩ := out
  have := nodup_le (l := f c :: as.map f) (m := visits [] (l.map f)) (List.nodup_cons.mpr ⟨nc, nd⟩) fun x hx => mem_dedup.mpr (by
    rcases List.mem_cons.mp hx with rfl | hx
    · exact List.mem_map.mpr ⟨c, hc, rfl⟩
    · obtain ⟨a, ha, rfl⟩ := List.mem_map.mp hx
      exact List.mem_map.mpr ⟨a, sub a ha, rfl⟩)
  have el : (visits [] (l.map g)).length = as.length := by rw [← e, List.length_map]
  rw [List.length_cons, List.length_map] at this
  omega
end
end L2.NW.Au
end
section
set_option Elab.async false
set_option autoImplicit false
set_option linter.all false
set_option maxRecDepth 100000
/-! AuB: automata that read columns; what a state reads; the automaton of all that comes up; the least one. -/
namespace L2.NW.Au
abbrev Bh := List Nat → Bool
noncomputable instance decBh : DecidableEq Bh := fun _ _ => Classical.propDecidable _
variable {V W : Type}
/-- what is read from v on -/
def beh (go : V → Nat → V) (gd : V → Bool) (m : Nat) (v : V) : Bh := fun w => w.all (· < m) && gd (w.foldl go v)
/-- behind one column -/
def dv (f : Bh) (k : Nat) : Bh := fun w => f (k :: w)
def nx (go : V → Nat → V) (m : Nat) (v : V) : List V := (List.range m).map (go v)
theorem beh_go {go : V → Nat → V} {gd : V → Bool} {m k : Nat} {v : V} (h : k < m) : beh go gd m (go v k) = dv (beh go gd m v) k := by
  funext w; simp [beh, dv, h]
theorem beh_nil {go : V → Nat → V} {gd : V → Bool} {m : Nat} {v : V} : beh go gd m v [] = gd v := by simp [beh]
/-- two read alike if they are good alike and each column leads to such -/
theorem beh_eq {go : V → Nat → V} {gd : V → Bool} {go' : W → Nat → W} {gd' : W → Bool} {m : Nat} {R : V → W → Prop} (h0 : ∀ v w, R v w → gd v = gd' w) (h1 : ∀ v w k, R v w → k < m → R (go v k) (go' w k)) {v : V} {w : W} (h : R v w) : beh go gd m v = beh go' gd' m w := by
  funext u
  induction u generalizing v w with
  | nil => rw [beh_nil, beh_nil]; exact h0 v w h
  | cons k u ih =>
    by_cases hk : k < m
    · have e1 : beh go gd m v (k :: u) = beh go gd m (go v k) u := by rw [beh_go hk]; rfl
      have e2 : beh go' gd' m w (k :: u) = beh go' gd' m (go' w k) u := by rw [beh_go hk]; rfl
      rw [e1, e2]; exact ih (h1 v w k h hk)
    · simp [beh, hk]
/-! ### lots -/
structure Lt where
  c : Nat
  mv : List (List Nat)
  gd : List Bool
  bg : List Nat
deriving DecidableEq
def Lt.n (A : Lt) : Nat := A.mv.length
def Lt.row (A : Lt) (s : Nat) : List Nat := (A.mv[s]?).getD []
def Lt.go (A : Lt) (s k : Nat) : Nat := ((A.row s)[k]?).getD 0
def Lt.good (A : Lt) (s : Nat) : Bool := (A.gd[s]?).getD false
def Lt.beh (A : Lt) : Nat → Bh := Au.beh A.go A.good (2 ^ A.c)
structure Lt.Ok (A : Lt) : Prop where
  pos : 0 < A.mv.length
  len : ∀ r ∈ A.mv, r.length = 2 ^ A.c
  lt : ∀ r ∈ A.mv, ∀ x ∈ r, x < A.mv.length
  gl : A.gd.length = A.mv.length
  g0 : ∀ s, s < A.mv.length → A.good s = A.good (A.go s 0)
  b0 : 0 < A.bg.length
  bl : ∀ x ∈ A.bg, x < A.mv.length
theorem Lt.Ok.row_at {A : Lt} (h : A.Ok) {s : Nat} (hs : s < A.mv.length) : A.mv[s]? = some (A.row s) := by
  unfold Lt.row; rw [List.getElem?_eq_getElem hs]; rfl
theorem Lt.Ok.row_mem {A : Lt} (h : A.Ok) {s : Nat} (hs : s < A.mv.length) : A.row s ∈ A.mv := List.mem_of_getElem? (h.row_at hs)
theorem Lt.Ok.row_len {A : Lt} (h : A.Ok) {s : Nat} (hs : s < A.mv.length) : (A.row s).length = 2 ^ A.c := h.len _ (h.row_mem hs)
theorem Lt.Ok.go_at {A : Lt} (h : A.Ok) {s k : Nat} (hs : s < A.mv.length) (hk : k < 2 ^ A.c) : (A.row s)[k]? = some (A.go s k) := by
  unfold Lt.go; rw [List.getElem?_eq_getElem (by rw [h.row_len hs]; exact hk)]; rfl
theorem Lt.Ok.go_lt {A : Lt} (h : A.Ok) {s k : Nat} (hs : s < A.mv.length) (hk : k < 2 ^ A.c) : A.go s k < A.mv.length := h.lt _ (h.row_mem hs) _ (List.mem_of_getElem? (h.go_at hs hk))
theorem Lt.Ok.good_at {A : Lt} (h : A.Ok) {s : Nat} (hs : s < A.mv.length) : A.gd[s]? = some (A.good s) := by
  unfold Lt.good; rw [List.getElem?_eq_getElem (by rw [h.gl]; exact hs)]; rfl
theorem Lt.Ok.nx_row {A : Lt} (h : A.Ok) {s : Nat} (hs : s < A.mv.length) : nx A.go (2 ^ A.c) s = A.row s := by
  refine List.ext_getElem (by simp [nx, h.row_len hs]) fun k h1 h2 => ?_
  have hk : k < 2 ^ A.c := by simpa [nx] using h1
  have := h.go_at hs hk
  rw [List.getElem?_eq_getElem h2] at this
  simp only [nx, List.getElem_map, List.getElem_range]
  exact (Option.some.inj this).symm
theorem two_pos (c : Nat) : 0 < 2 ^ c := Nat.two_pow_pos c
/-! ### the automaton of what comes up -/
section
variable [DecidableEq V] [DecidableEq W]
def lotOf (c : Nat) (go : V → Nat → V) (gd : V → Bool) (bs R : List V) : Lt := ⟨c, R.map fun v => (List.range (2 ^ c)).map fun k => ixOf R (go v k), R.map gd, bs.map (ixOf R)⟩
/-- all of R lead into R -/
def Shut (go : V → Nat → V) (m : Nat) (R : List V) : Prop := ∀ v ∈ R, ∀ k, k < m → go v k ∈ R
structure Ups (c : Nat) (go : V → Nat → V) (bs R : List V) : Prop where
  come : Come (nx go (2 ^ c)) (visits [] bs) 0 R
  shut : Shut go (2 ^ c) R
  nd : R.Nodup
  bs : ∀ v ∈ bs, v ∈ R
theorem ups_of {c : Nat} {go : V → Nat → V} {bs R : List V} (h : Come (nx go (2 ^ c)) (visits [] bs) 0 R) : Ups c go bs R :=
  ⟨h, fun v hv k hk => h.closed (fun i v hi _ => absurd hi (Nat.not_lt_zero i)) v hv _ (List.mem_map.mpr ⟨k, List.mem_range.mpr hk, rfl⟩), h.nodup (dedup_nodup bs), fun v hv => (h.pre).subset (mem_dedup.mpr hv)⟩
variable {c : Nat} {go : V → Nat → V} {gd : V → Bool} {bs R : List V}
theorem lotOf_row {i : Nat} {v : V} (h : R[i]? = some v) : (lotOf c go gd bs R).row i = (List.range (2 ^ c)).map fun k => ixOf R (go v k) := by
  simp [lotOf, Lt.row, h]
theorem lotOf_go {i k : Nat} {v : V} (h : R[i]? = some v) (hk : k < 2 ^ c) : (lotOf c go gd bs R).go i k = ixOf R (go v k) := by
  unfold Lt.go
  rw [lotOf_row h, List.getElem?_map, List.getElem?_range hk]; rfl
theorem lotOf_good {i : Nat} {v : V} (h : R[i]? = some v) : (lotOf c go gd bs R).good i = gd v := by
  simp [lotOf, Lt.good, h]
theorem lotOf_beh (u : Ups c go bs R) {i : Nat} {v : V} (h : R[i]? = some v) : (lotOf c go gd bs R).beh i = beh go gd (2 ^ c) v := by
  refine beh_eq (R := fun i v => R[i]? = some v) (fun i v h => lotOf_good h) (fun i v k h hk => ?_) h
  have hk : k < 2 ^ c := hk
  rw [lotOf_go h hk]
  exact at_idxOf (u.shut v (List.mem_of_getElem? h) k hk)
theorem lotOf_ok (u : Ups c go bs R) (g : ∀ v ∈ R, gd v = gd (go v 0)) (b : bs ≠ []) : (lotOf c go gd bs R).Ok := by
  have bl : ∀ x ∈ (lotOf c go gd bs R).bg, x < R.length := fun x hx => by
    obtain ⟨v, hv, rfl⟩ := List.mem_map.mp hx
    exact ixOf_lt.mpr (u.bs v hv)
  have b1 : 0 < bs.length := List.length_pos_iff.mpr b
  refine ⟨?_, fun r hr => ?_, fun r hr x hx => ?_, by simp [lotOf], fun s hs => ?_, by simp [lotOf]; exact b1, fun x hx => by simp [lotOf] at hx ⊢; obtain ⟨v, hv, rfl⟩ := hx; exact ixOf_lt.mpr (u.bs v hv)⟩
  · have := bl ((lotOf c go gd bs R).bg[0]'(by simp [lotOf]; exact b1)) (List.getElem_mem _)
    simp [lotOf] at this ⊢
    omega
  · obtain ⟨v, hv, rfl⟩ := List.mem_map.mp hr
    simp [lotOf]
  · obtain ⟨v, hv, rfl⟩ := List.mem_map.mp hr
    obtain ⟨k, hk, rfl⟩ := List.mem_map.mp hx
    simp only [lotOf, List.length_map]
    exact ixOf_lt.mpr (u.shut v hv k (List.mem_range.mp hk))
  · have hs : s < R.length := by simpa [lotOf] using hs
    have e : R[s]? = some R[s] := List.getElem?_eq_getElem hs
    have hm := List.mem_of_getElem? e
    rw [lotOf_good e, lotOf_go e (two_pos c), lotOf_good (at_idxOf (u.shut _ hm 0 (two_pos c)))]
    exact g _ hm
end
/-! ### the least one -/
/-- the search over what is read -/
def Can (c : Nat) (bs R : List Bh) : Prop := Ups c dv bs R
noncomputable def canLot (c : Nat) (bs R : List Bh) : Lt := lotOf c dv (fun f => f []) bs R
section
variable [DecidableEq V] [DecidableEq W] {c : Nat} {go : V → Nat → V} {gd : V → Bool} {bs R : List V}
theorem visits_nil_map {φ : V → W} {vs : List V} (inj : ∀ x ∈ vs, ∀ y ∈ vs, φ x = φ y → x = y) : visits [] (vs.map φ) = (visits [] vs).map φ := by
  have := visits_map (φ := φ) (vs := vs) (row := []) fun x hx y hy => inj x (hx.elim (fun z => nomatch z) id) y (hy.elim (fun z => nomatch z) id)
  simpa using this
/-- another name for each value: the same automaton -/
theorem ups_map {go' : W → Nat → W} {gd' : W → Bool} {φ : V → W} {P : V → Prop} (u : Ups c go bs R) (z : ∀ v ∈ bs, P v) (s : ∀ v, P v → ∀ k, k < 2 ^ c → P (go v k)) (inj : ∀ v, P v → ∀ w, P w → φ v = φ w → v = w) (hg : ∀ v, P v → ∀ k, k < 2 ^ c → φ (go v k) = go' (φ v) k) (hd : ∀ v, P v → gd v = gd' (φ v)) :
    Ups c go' (bs.map φ) (R.map φ) ∧ lotOf c go gd bs R = lotOf c go' gd' (bs.map φ) (R.map φ) := by
  have s' : ∀ v, P v → ∀ w ∈ nx go (2 ^ c) v, P w := fun v hv w hw => by
    obtain ⟨k, hk, rfl⟩ := List.mem_map.mp hw
    exact s v hv k (List.mem_range.mp hk)
  have z' : ∀ v ∈ visits [] bs, P v := fun v hv => z v (mem_dedup.mp hv)
  have all : ∀ v ∈ R, P v := u.come.all z' s'
  have e1 : visits [] (bs.map φ) = (visits [] bs).map φ := visits_nil_map fun x hx y hy e => inj x (z x hx) y (z y hy) e
  have come := u.come.map (ny := nx go' (2 ^ c)) z' s' inj fun v hv => by
    unfold nx
    rw [List.map_map]
    exact List.map_congr_left fun k hk => (hg v hv k (List.mem_range.mp hk)).symm
  rw [← e1] at come
  refine ⟨ups_of come, ?_⟩
  have ix : ∀ v, P v → ixOf (R.map φ) (φ v) = ixOf R v := fun v hv => idxOf_map fun y hy e => inj y (all y hy) v hv e
  unfold lotOf
  simp only [List.map_map, Lt.mk.injEq, true_and]
  refine ⟨List.map_congr_left fun v hv => List.map_congr_left fun k hk => ?_, List.map_congr_left fun v hv => hd v (all v hv), List.map_congr_left fun v hv => (ix v (z v hv)).symm⟩
  show ixOf R (go v k) = ixOf (R.map φ) (go' (φ v) k)
  rw [← hg v (all v hv) k (List.mem_range.mp hk), ix _ (s v (all v hv) k (List.mem_range.mp hk))]
theorem can_of {P : V → Prop} (u : Ups c go bs R) (z : ∀ v ∈ bs, P v) (s : ∀ v, P v → ∀ k, k < 2 ^ c → P (go v k)) (inj : ∀ v, P v → ∀ w, P w → beh go gd (2 ^ c) v = beh go gd (2 ^ c) w → v = w) :
    Can c (bs.map (beh go gd (2 ^ c))) (R.map (beh go gd (2 ^ c))) ∧ lotOf c go gd bs R = canLot c (bs.map (beh go gd (2 ^ c))) (R.map (beh go gd (2 ^ c))) :=
  ups_map u z s inj (fun v hv k hk => beh_go hk) fun v hv => beh_nil.symm
end
/-! ### what holds of it -/
theorem dv_beh (m : Nat) (f : Bh) (hf : ∀ w, f w = true → w.all (· < m) = true) : beh dv (fun f => f []) m f = f := by
  funext w
  have : ∀ (w : List Nat) (g : Bh), (w.foldl dv g) [] = g w := fun w => by
    induction w with
    | nil => intro g; rfl
    | cons k w ih => intro g; rw [List.foldl_cons, ih]; rfl
  show (w.all (· < m) && (w.foldl dv f) []) = f w
  rw [this]
  cases h : f w with
  | true => simpa using hf w h
  | false => simp
section
variable {c : Nat} {bs R : List Bh} (u : Can c bs R)
include u
/-- numbered as they come up -/
theorem can_numbered : Ups c (canLot c bs R).go (canLot c bs R).bg (List.range R.length) := by
  have e : List.range R.length = R.map (ixOf R) := by
    refine List.ext_getElem (by simp) fun i h1 h2 => ?_
    have hi : i < R.length := by simpa using h1
    rw [List.getElem_range, List.getElem_map]
    exact (idxOf_at u.nd (List.getElem?_eq_getElem hi)).symm
  have := (ups_map (go' := (canLot c bs R).go) (gd := fun f => f []) (gd' := (canLot c bs R).good) (φ := ixOf R) (P := fun v => v ∈ R) u u.bs (fun v hv k hk => u.shut v hv k hk) (fun v hv w hw e => ?_) (fun v hv k hk => ?_) fun v hv => ?_).1
  · rw [e]; exact this
  · have := at_idxOf hv
    rw [e, at_idxOf hw] at this
    exact (Option.some.inj this).symm
  · exact (lotOf_go (at_idxOf hv) hk).symm
  · exact (lotOf_good (gd := fun f : Bh => f []) (at_idxOf hv)).symm
end
end L2.NW.Au
end
section
set_option Elab.async false
set_option autoImplicit false
set_option linter.all false
set_option maxRecDepth 100000
/-! AuC: states are parted by what they read; the least automaton comes of it. -/
namespace L2.NW.Au
def kAt (K : List Nat) (i : Nat) : Nat := (K[i]?).getD 0
def lookOf (A : Lt) (K : List Nat) (i : Nat) : List Nat := kAt K i :: (A.row i).map (kAt K)
def looksOf (A : Lt) (K : List Nat) : List (List Nat) := (List.range A.mv.length).map (lookOf A K)
def finer (A : Lt) (K : List Nat) : List Nat := (looksOf A K).map (ixOf (visits [] (looksOf A K)))
/-- laps, until no more are told apart -/
inductive Part (A : Lt) : Nat → List Nat → List Nat → Prop
  | stop {K : List Nat} (h : (visits [] (looksOf A K)).length = (visits [] K).length) : Part A 1 K K
  | lap {n : Nat} {K R : List Nat} (h : (visits [] (looksOf A K)).length ≠ (visits [] K).length) (t : Part A n (finer A K) R) : Part A (n + 1) K R
theorem kAt_some {K : List Nat} {i x : Nat} (h : K[i]? = some x) : kAt K i = x := by simp [kAt, h]
theorem at_kAt {K : List Nat} {i : Nat} (h : i < K.length) : K[i]? = some (kAt K i) := by simp [kAt, List.getElem?_eq_getElem h]
theorem eq_map_kAt {K : List Nat} {n : Nat} (h : K.length = n) : K = (List.range n).map (kAt K) := by
  subst h
  refine List.ext_getElem (by simp) fun i h1 h2 => ?_
  rw [List.getElem_map, List.getElem_range]
  simp [kAt, List.getElem?_eq_getElem h1]
theorem finer_len {A : Lt} {K : List Nat} : (finer A K).length = A.mv.length := by simp [finer, looksOf]
theorem finer_at {A : Lt} {K : List Nat} {i : Nat} (h : i < A.mv.length) : kAt (finer A K) i = ixOf (visits [] (looksOf A K)) (lookOf A K i) := by
  refine kAt_some ?_
  simp [finer, looksOf, h]
theorem look_mem {A : Lt} {K : List Nat} {i : Nat} (h : i < A.mv.length) : lookOf A K i ∈ visits [] (looksOf A K) := mem_dedup.mpr (List.mem_map.mpr ⟨i, List.mem_range.mpr h, rfl⟩)
theorem finer_iff {A : Lt} {K : List Nat} {i j : Nat} (hi : i < A.mv.length) (hj : j < A.mv.length) : kAt (finer A K) i = kAt (finer A K) j ↔ lookOf A K i = lookOf A K j := by
  rw [finer_at hi, finer_at hj]
  refine ⟨fun e => ?_, fun e => by rw [e]⟩
  have h1 := at_idxOf (look_mem (K := K) hi)
  rw [e, at_idxOf (look_mem (K := K) hj)] at h1
  exact (Option.some.inj h1).symm
section
variable {A : Lt} {K : List Nat}
theorem many_le (hk : K.length = A.mv.length) : (visits [] K).length ≤ (visits [] (looksOf A K)).length := by
  have := finer_le (l := List.range A.mv.length) (f := lookOf A K) (g := kAt K) fun a _ b _ e => (List.cons.inj e).1
  rwa [← eq_map_kAt hk] at this
theorem many_finer : (visits [] (finer A K)).length = (visits [] (looksOf A K)).length := by
  have e := eq_map_kAt (finer_len (A := A) (K := K))
  refine Nat.le_antisymm ?_ ?_
  · rw [e]
    exact finer_le (l := List.range A.mv.length) (f := lookOf A K) (g := kAt (finer A K)) fun a ha b hb z => (finer_iff (List.mem_range.mp ha) (List.mem_range.mp hb)).mpr z
  · rw [e]
    exact finer_le (l := List.range A.mv.length) (f := kAt (finer A K)) (g := lookOf A K) fun a ha b hb z => (finer_iff (List.mem_range.mp ha) (List.mem_range.mp hb)).mp z
theorem part_ex : ∀ (d : Nat) {K : List Nat}, K.length = A.mv.length → A.mv.length ≤ d + (visits [] K).length → ∃ l R, l ≤ d + 1 ∧ Part A l K R
  | d, K, hk, hd => by
    by_cases h : (visits [] (looksOf A K)).length = (visits [] K).length
    · exact ⟨1, K, by omega, .stop h⟩
    · have h1 := many_le (A := A) hk
      have h2 := many_finer (A := A) (K := K)
      have h3 := dedup_le (looksOf A K)
      have h4 : (looksOf A K).length = A.mv.length := by simp [looksOf]
      cases d with
      | zero => omega
      | succ d =>
        obtain ⟨l, R, hl, t⟩ := part_ex d (K := finer A K) finer_len (by omega)
        exact ⟨l + 1, R, by omega, .lap h t⟩
structure Parts (A : Lt) (K : List Nat) : Prop where
  len : K.length = A.mv.length
  same : ∀ i j, i < A.mv.length → j < A.mv.length → A.beh i = A.beh j → kAt K i = kAt K j
  good : ∀ i j, i < A.mv.length → j < A.mv.length → kAt K i = kAt K j → A.good i = A.good j
theorem look_go (h : A.Ok) {i j k : Nat} (hi : i < A.mv.length) (hj : j < A.mv.length) (hk : k < 2 ^ A.c) (e : lookOf A K i = lookOf A K j) : kAt K (A.go i k) = kAt K (A.go j k) := by
  have e2 := (List.cons.inj e).2
  have h1 : ((A.row i).map (kAt K))[k]? = some (kAt K (A.go i k)) := by rw [List.getElem?_map, h.go_at hi hk]; rfl
  have h2 : ((A.row j).map (kAt K))[k]? = some (kAt K (A.go j k)) := by rw [List.getElem?_map, h.go_at hj hk]; rfl
  rw [e2, h2] at h1
  exact (Option.some.inj h1).symm
theorem beh_step (h : A.Ok) {i j k : Nat} (hk : k < 2 ^ A.c) (e : A.beh i = A.beh j) : A.beh (A.go i k) = A.beh (A.go j k) := by
  unfold Lt.beh at *
  rw [beh_go hk, beh_go hk, e]
theorem Parts.finer (h : A.Ok) (p : Parts A K) : Parts A (finer A K) where
  len := finer_len
  same := fun i j hi hj e => (finer_iff hi hj).mpr (by
    unfold lookOf
    rw [p.same i j hi hj e, ← h.nx_row hi, ← h.nx_row hj]
    unfold nx
    rw [List.map_map, List.map_map, List.map_congr_left fun k hk => ?_]
    have hk := List.mem_range.mp hk
    exact p.same _ _ (h.go_lt hi hk) (h.go_lt hj hk) (beh_step h hk e))
  good := fun i j hi hj e => p.good i j hi hj (List.cons.inj ((finer_iff hi hj).mp e)).1
/-- behind the laps: two states are told apart just if they read unlike -/
theorem part_iff (h : A.Ok) {l : Nat} {K R : List Nat} (t : Part A l K R) : Parts A K → R.length = A.mv.length ∧ ∀ i j, i < A.mv.length → j < A.mv.length → (kAt R i = kAt R j ↔ A.beh i = A.beh j) := by
  induction t with
  | @stop K e =>
    intro p
    refine ⟨p.len, fun i j hi hj => ⟨fun z => ?_, p.same i j hi hj⟩⟩
    have eq : ∀ a, a < A.mv.length → ∀ b, b < A.mv.length → kAt K a = kAt K b → lookOf A K a = lookOf A K b := fun a ha b hb => by
      have := finer_eq (l := List.range A.mv.length) (f := lookOf A K) (g := kAt K) (fun a _ b _ e => (List.cons.inj e).1) (by rw [← eq_map_kAt p.len]; exact Nat.le_of_eq e)
      exact this a (List.mem_range.mpr ha) b (List.mem_range.mpr hb)
    exact beh_eq (R := fun a b => a < A.mv.length ∧ b < A.mv.length ∧ kAt K a = kAt K b) (fun a b q => p.good a b q.1 q.2.1 q.2.2)
      (fun a b k q hk => ⟨h.go_lt q.1 hk, h.go_lt q.2.1 hk, look_go h q.1 q.2.1 hk (eq a q.1 b q.2.1 q.2.2)⟩) ⟨hi, hj, z⟩
  | lap e t ih => exact fun p => ih (p.finer h)
end
/-- by goodness -/
def goods (A : Lt) : List Nat := A.gd.map fun b => b.toNat
theorem goods_at {A : Lt} (h : A.Ok) {i : Nat} (hi : i < A.mv.length) : kAt (goods A) i = (A.good i).toNat := kAt_some (by unfold goods; rw [List.getElem?_map, h.good_at hi]; rfl)
theorem goods_parts {A : Lt} (h : A.Ok) : Parts A (goods A) where
  len := by simp [goods, h.gl]
  same := fun i j hi hj e => by
    rw [goods_at h hi, goods_at h hj]
    have := congrFun e []
    unfold Lt.beh at this
    rw [beh_nil, beh_nil] at this
    rw [this]
  good := fun i j hi hj e => by
    rw [goods_at h hi, goods_at h hj] at e
    cases h1 : A.good i <;> cases h2 : A.good j <;> simp [h1, h2] at e ⊢
/-! ### the least automaton -/
def goP (A : Lt) (K : List Nat) (p k : Nat) : Nat := kAt K (A.go (ixOf K p) k)
def goodP (A : Lt) (K : List Nat) (p : Nat) : Bool := A.good (ixOf K p)
def bgP (A : Lt) (K : List Nat) : List Nat := A.bg.map (kAt K)
section
variable {A : Lt} {K : List Nat} (h : A.Ok) (hl : K.length = A.mv.length) (hk : ∀ i j, i < A.mv.length → j < A.mv.length → (kAt K i = kAt K j ↔ A.beh i = A.beh j))
include h hl hk
theorem kAt_mem {i : Nat} (hi : i < A.mv.length) : kAt K i ∈ K := List.mem_of_getElem? (at_kAt (by rw [hl]; exact hi))
theorem idx_lt {p : Nat} (hp : p ∈ K) : ixOf K p < A.mv.length := by rw [← hl]; exact ixOf_lt.mpr hp
theorem kAt_idx {p : Nat} (hp : p ∈ K) : kAt K (ixOf K p) = p := kAt_some (at_idxOf hp)
theorem goP_mem {p k : Nat} (hp : p ∈ K) (hc : k < 2 ^ A.c) : goP A K p k ∈ K := kAt_mem h hl hk (h.go_lt (idx_lt h hl hk hp) hc)
theorem behP {p i : Nat} (hi : i < A.mv.length) (e : kAt K i = p) : beh (goP A K) (goodP A K) (2 ^ A.c) p = A.beh i := by
  refine beh_eq (R := fun p i => i < A.mv.length ∧ kAt K i = p) (fun p i q => ?_) (fun p i k q hc => ?_) ⟨hi, e⟩
  · have hp : p ∈ K := q.2 ▸ kAt_mem h hl hk q.1
    have := (hk _ _ (idx_lt h hl hk hp) q.1).mp ((kAt_idx h hl hk hp).trans q.2.symm)
    have := congrFun this []
    unfold Lt.beh at this
    rwa [beh_nil, beh_nil] at this
  · have hp : p ∈ K := q.2 ▸ kAt_mem h hl hk q.1
    have := (hk _ _ (idx_lt h hl hk hp) q.1).mp ((kAt_idx h hl hk hp).trans q.2.symm)
    exact ⟨h.go_lt q.1 hc, ((hk _ _ (h.go_lt (idx_lt h hl hk hp) hc) (h.go_lt q.1 hc)).mpr (beh_step h hc this)).symm⟩
theorem bgP_mem {p : Nat} (hp : p ∈ bgP A K) : p ∈ K := by
  obtain ⟨i, hi, rfl⟩ := List.mem_map.mp hp
  exact kAt_mem h hl hk (h.bl i hi)
theorem upsP_ex : ∃ R, Ups A.c (goP A K) (bgP A K) R := by
  obtain ⟨R, t⟩ := come_ex (nx := nx (goP A K) (2 ^ A.c)) K (fun v hv w hw => by
    obtain ⟨k, hc, rfl⟩ := List.mem_map.mp hw
    exact goP_mem h hl hk hv (List.mem_range.mp hc)) K.length (row := visits [] (bgP A K)) (k := 0) (dedup_nodup _) (fun v hv => bgP_mem h hl hk (mem_dedup.mp hv)) (Nat.zero_le _) (Nat.le_refl _)
  exact ⟨R, ups_of t⟩
theorem canP {R : List Nat} (u : Ups A.c (goP A K) (bgP A K) R) : ∃ R', Can A.c (A.bg.map A.beh) R' ∧ lotOf A.c (goP A K) (goodP A K) (bgP A K) R = canLot A.c (A.bg.map A.beh) R' := by
  have := can_of (gd := goodP A K) (P := fun p => p ∈ K) u (fun v hv => bgP_mem h hl hk hv) (fun v hv k hc => goP_mem h hl hk hv hc) fun v hv w hw e => by
    rw [behP h hl hk (idx_lt h hl hk hv) (kAt_idx h hl hk hv), behP h hl hk (idx_lt h hl hk hw) (kAt_idx h hl hk hw)] at e
    have := (hk _ _ (idx_lt h hl hk hv) (idx_lt h hl hk hw)).mpr e
    rwa [kAt_idx h hl hk hv, kAt_idx h hl hk hw] at this
  have e : (bgP A K).map (beh (goP A K) (goodP A K) (2 ^ A.c)) = A.bg.map A.beh := by
    unfold bgP
    rw [List.map_map]
    exact List.map_congr_left fun i hi => behP h hl hk (h.bl i hi) rfl
  rw [e] at this
  exact ⟨_, this⟩
end
/-- the search through an automaton's states -/
theorem ups_ex {A : Lt} (h : A.Ok) : ∃ R, Ups A.c A.go A.bg R ∧ (∀ v ∈ R, v < A.mv.length) ∧ R.length ≤ A.mv.length := by
  have sub : ∀ v, v < A.mv.length → ∀ w ∈ nx A.go (2 ^ A.c) v, w < A.mv.length := fun v hv w hw => by
    obtain ⟨k, hc, rfl⟩ := List.mem_map.mp hw
    exact h.go_lt hv (List.mem_range.mp hc)
  have z : ∀ v ∈ visits [] A.bg, v < A.mv.length := fun v hv => h.bl v (mem_dedup.mp hv)
  obtain ⟨R, t⟩ := come_ex (nx := nx A.go (2 ^ A.c)) (List.range A.mv.length) (fun v hv w hw => List.mem_range.mpr (sub v (List.mem_range.mp hv) w hw)) A.mv.length (row := visits [] A.bg) (k := 0) (dedup_nodup _) (fun v hv => List.mem_range.mpr (z v hv)) (Nat.zero_le _) (by simp)
  have all := t.all z sub
  exact ⟨R, ups_of t, all, by have := nodup_le (ups_of t).nd (m := List.range A.mv.length) fun v hv => List.mem_range.mpr (all v hv); simpa using this⟩
/-- what comes up of an automaton reads as it does -/
theorem up_ok {A : Lt} (h : A.Ok) {R : List Nat} (u : Ups A.c A.go A.bg R) (b : ∀ v ∈ R, v < A.mv.length) : (lotOf A.c A.go A.good A.bg R).Ok ∧ (lotOf A.c A.go A.good A.bg R).bg.map (lotOf A.c A.go A.good A.bg R).beh = A.bg.map A.beh := by
  refine ⟨lotOf_ok u (fun v hv => h.g0 v (b v hv)) fun e => ?_, ?_⟩
  · have := h.b0
    rw [e] at this
    cases this
  · show (A.bg.map (ixOf R)).map _ = _
    rw [List.map_map]
    exact List.map_congr_left fun v hv => lotOf_beh u (at_idxOf (u.bs v hv))
end L2.NW.Au
end
section
set_option Elab.async false
set_option autoImplicit false
set_option linter.all false
set_option maxRecDepth 100000
/-! AuD: two automata read at once; a test that all states are parted. -/
namespace L2.NW.Au
/-! ### read at once -/
section
variable {A B : Lt} (hA : A.Ok) (hB : B.Ok) (hc : A.c = B.c)
include hA hB hc
end
/-! ### all states parted -/
section
variable {A : Lt} (h : A.Ok)
include h
end
end L2.NW.Au
end
section
set_option Elab.async false
set_option autoImplicit false
set_option linter.all false
set_option maxRecDepth 100000
/-! AuE: the least automaton: what holds of it. -/
namespace L2.NW.Au
section
variable {A : Lt} (h : A.Ok) {R : List Bh} (u : Can A.c (A.bg.map A.beh) R)
include h u
theorem can_all : ∀ f ∈ R, ∃ i, i < A.mv.length ∧ f = A.beh i := by
  refine u.come.all (P := fun f => ∃ i, i < A.mv.length ∧ f = A.beh i) (fun f hf => ?_) fun f hf g hg => ?_
  · obtain ⟨i, hi, rfl⟩ := List.mem_map.mp (mem_dedup.mp hf)
    exact ⟨i, h.bl i hi, rfl⟩
  · obtain ⟨i, hi, rfl⟩ := hf
    obtain ⟨k, hk, rfl⟩ := List.mem_map.mp hg
    have hk := List.mem_range.mp hk
    exact ⟨A.go i k, h.go_lt hi hk, (beh_go hk).symm⟩
theorem can_le : R.length ≤ A.mv.length := by
  have := nodup_le u.nd (m := (List.range A.mv.length).map A.beh) fun f hf => by
    obtain ⟨i, hi, e⟩ := can_all h u f hf
    exact List.mem_map.mpr ⟨i, List.mem_range.mpr hi, e.symm⟩
  simpa using this
theorem can_ok : (canLot A.c (A.bg.map A.beh) R).Ok := by
  refine lotOf_ok u (fun f hf => ?_) fun e => ?_
  · obtain ⟨i, hi, rfl⟩ := can_all h u f hf
    have e : dv (A.beh i) 0 = A.beh (A.go i 0) := (beh_go (two_pos A.c)).symm
    rw [e]
    unfold Lt.beh
    rw [beh_nil, beh_nil]
    exact h.g0 i hi
  · have := h.b0
    rw [List.map_eq_nil_iff] at e
    rw [e] at this
    cases this
theorem can_beh {i : Nat} {f : Bh} (hi : R[i]? = some f) : (canLot A.c (A.bg.map A.beh) R).beh i = f := by
  have := lotOf_beh (gd := fun f : Bh => f []) u hi
  refine this.trans (dv_beh _ f fun w hw => ?_)
  obtain ⟨j, _, rfl⟩ := can_all h u f (List.mem_of_getElem? hi)
  unfold Lt.beh beh at hw
  exact (Bool.and_eq_true_iff.mp hw).1
omit h u in
theorem can_len : (canLot A.c (A.bg.map A.beh) R).mv.length = R.length := by simp [canLot, lotOf]
theorem can_inj : ∀ i j, i < (canLot A.c (A.bg.map A.beh) R).mv.length → j < (canLot A.c (A.bg.map A.beh) R).mv.length → (canLot A.c (A.bg.map A.beh) R).beh i = (canLot A.c (A.bg.map A.beh) R).beh j → i = j := by
  intro i j hi hj e
  rw [can_len] at hi hj
  have ei : R[i]? = some R[i] := List.getElem?_eq_getElem hi
  have ej : R[j]? = some R[j] := List.getElem?_eq_getElem hj
  rw [can_beh h u ei, can_beh h u ej] at e
  exact nodup_at u.nd ei (e ▸ ej)
theorem can_bg : (canLot A.c (A.bg.map A.beh) R).bg.map (canLot A.c (A.bg.map A.beh) R).beh = A.bg.map A.beh := by
  show ((A.bg.map A.beh).map (ixOf R)).map _ = _
  rw [List.map_map]
  refine (List.map_congr_left fun f hf => ?_).trans (List.map_id _)
  exact can_beh h u (at_idxOf (u.bs f hf))
end
end L2.NW.Au
end
section
set_option Elab.async false
set_option autoImplicit false
set_option linter.all false
set_option maxRecDepth 100000
set_option maxHeartbeats 2000000
/-! AuM: mirrors read as plain things: rows, loops, dicts that number. -/
namespace L2.NW.Au
open PySem PySem.Spec PyProof.Rows
abbrev nD (n : Nat) : D := .int (n : Int)
abbrev rD (l : List Nat) : D := .tup (l.map nD)
abbrev mvD (l : List (List Nat)) : D := .tup (l.map rD)
abbrev gdD (l : List Bool) : D := .tup (l.map D.bl)
def lD (A : Lt) : D := .tup [nD A.c, mvD A.mv, gdD A.gd, rD A.bg]
def fsL : List Str := ["counters", "moves", "good", "begins"]
def oD (A : Lt) : D := .ins "Lot" fsL [nD A.c, mvD A.mv, gdD A.gd, rD A.bg]
theorem szM {n : Nat} (h : n ≤ 1000000) : n ≤ sizeLine := Nat.le_trans h (by decide)
theorem fe1 : ¬ ("moves" : Str) = "counters" := by decide +kernel
theorem fe2 : ¬ ("good" : Str) = "counters" := by decide +kernel
theorem fe3 : ¬ ("good" : Str) = "moves" := by decide +kernel
theorem fe4 : ¬ ("begins" : Str) = "counters" := by decide +kernel
theorem fe5 : ¬ ("begins" : Str) = "moves" := by decide +kernel
theorem fe6 : ¬ ("begins" : Str) = "good" := by decide +kernel
theorem fb1 : (("moves" : Str) == "counters") = false := by decide +kernel
theorem fb2 : (("good" : Str) == "counters") = false := by decide +kernel
theorem fb3 : (("good" : Str) == "moves") = false := by decide +kernel
theorem fb4 : (("begins" : Str) == "counters") = false := by decide +kernel
theorem fb5 : (("begins" : Str) == "moves") = false := by decide +kernel
theorem fb6 : (("begins" : Str) == "good") = false := by decide +kernel
section
variable {cs : List Str} {A : Lt} (h : ("Lot" : Str) ∈ cs)
include h
theorem fld_c : fldD cs "counters" (oD A) = pure (nD A.c) := by simp [fldD, oD, fsL, h]
theorem fld_m : fldD cs "moves" (oD A) = pure (mvD A.mv) := by simp [fldD, oD, fsL, h, List.lookup_cons, fb1]
theorem fld_g : fldD cs "good" (oD A) = pure (gdD A.gd) := by simp [fldD, oD, fsL, h, List.lookup_cons, fb2, fb3]
theorem fld_b : fldD cs "begins" (oD A) = pure (rD A.bg) := by simp [fldD, oD, fsL, h, List.lookup_cons, fb4, fb5, fb6]
end
/-! ### comprehensions over what is told of by a list of plain things -/
theorem lcL_enc {α : Type} {t : Tgt} {te : EW} {ρ : Env'} (enc g : α → D) : ∀ (xs : List α), (∀ x ∈ xs, ∃ ρ1, t.st (enc x) ρ = some ρ1 ∧ WP.noex (te ρ1) = pure (g x)) → lcL t bT te ρ (xs.map enc) = pure (xs.map g)
  | [], _ => rfl
  | x :: l, h => by
    have ih := lcL_enc enc g l fun y hy => h y (List.mem_cons_of_mem _ hy)
    obtain ⟨ρ1, e1, h1⟩ := h x (List.mem_cons_self ..)
    simp only [List.map_cons, lcL, e1, h1, ih, WP.pure_bind]
    rfl
theorem lcL_encF {α : Type} {t : Tgt} {tt : BW} {te : EW} {ρ : Env'} (enc g : α → D) (p : α → Bool) : ∀ (xs : List α), (∀ x ∈ xs, ∃ ρ1, t.st (enc x) ρ = some ρ1 ∧ WP.noex (tt ρ1) = pure (p x) ∧ (p x = true → WP.noex (te ρ1) = pure (g x))) → lcL t tt te ρ (xs.map enc) = pure ((xs.filter p).map g)
  | [], _ => rfl
  | x :: l, h => by
    have ih := lcL_encF enc g p l fun y hy => h y (List.mem_cons_of_mem _ hy)
    obtain ⟨ρ1, e1, h1, h2⟩ := h x (List.mem_cons_self ..)
    cases hp : p x with
    | true =>
      simp only [List.map_cons, lcL, e1, h1, hp, h2 hp, ih, WP.pure_bind, if_true, List.filter_cons]
    | false =>
      simp only [List.map_cons, lcL, e1, h1, hp, ih, WP.pure_bind, List.filter_cons]
      rfl
theorem asBls_map {α : Type} (p : α → Bool) : ∀ (xs : List α), asBls (xs.map fun x => D.bl (p x)) = some (xs.map p)
  | [] => rfl
  | x :: l => by simp [asBls, asBls_map p l]
theorem allD_map {α : Type} (p : α → Bool) (xs : List α) : allD (xs.map fun x => D.bl (p x)) = pure (.bl (xs.all p)) := by
  simp [allD, asBls_map, List.all_map]
theorem anyD_map {α : Type} (p : α → Bool) (xs : List α) : anyD (xs.map fun x => D.bl (p x)) = pure (.bl (xs.any p)) := by
  simp [anyD, asBls_map, List.any_map]
theorem rangeL_nat (n : Nat) : rangeL 0 n = (List.range n).map nD := by
  unfold rangeL
  exact List.map_congr_left fun i _ => by simp
/-! ### == -/
theorem deq_int (a b : Int) : D.eq (.int a) (.int b) = decide (a = b) := by
  show (a == b) = _
  rfl
theorem deep_int (n : Nat) (a : Int) : D.deep n (.int a) := by simp [D.deep]
theorem deq_bl (a b : Bool) : D.eq (.bl a) (.bl b) = decide (a = b) := by cases a <;> cases b <;> rfl
theorem deep_bl (n : Nat) (a : Bool) : D.deep n (.bl a) := by simp [D.deep]
theorem deq_nat (a b : Nat) : D.eq (nD a) (nD b) = decide (a = b) := by
  rw [deq_int]
  by_cases h : a = b
  · simp [h]
  · rw [decide_eq_false h, decide_eq_false (by omega)]
theorem deep_lst {α : Type} {enc : α → D} {n : Nat} {l : List α} (h : ∀ x ∈ l, D.deep n (enc x)) : D.deep (n + 1) (.lst (l.map enc)) := by
  simp only [D.deep]
  refine ⟨n, rfl, D.deeps_iff.mpr fun d hd => ?_⟩
  obtain ⟨x, hx, rfl⟩ := List.mem_map.mp hd
  exact h x hx
theorem eqv_map {α : Type} [DecidableEq α] {enc : α → D} (h : ∀ a b, D.eq (enc a) (enc b) = decide (a = b)) : ∀ (r s : List α), PyData.eqvAll (D.pys (r.map enc)) (D.pys (s.map enc)) = decide (r = s)
  | [], [] => rfl
  | [], _ :: _ => rfl
  | _ :: _, [] => rfl
  | x :: r, y :: s => by
    have ih := eqv_map h r s
    have e : PyData.eqv (enc x).py (enc y).py = decide (x = y) := h x y
    simp only [List.map_cons, D.pys, PyData.eqvAll, ih, e]
    by_cases h : x = y
    · by_cases h2 : r = s <;> simp [h, h2]
    · simp [h]
theorem deq_lst {α : Type} [DecidableEq α] {enc : α → D} (h : ∀ a b, D.eq (enc a) (enc b) = decide (a = b)) (r s : List α) : D.eq (.lst (r.map enc)) (.lst (s.map enc)) = decide (r = s) := by
  show PyData.eqv (D.py (.lst _)) (D.py (.lst _)) = _
  simp only [D.py, PyData.eqv]
  exact eqv_map h r s
theorem at_nD {l : List Nat} {i x : Nat} (h : l[i]? = some x) : L2.atI (l.map nD) (i : Int) = some (nD x) := L2.atI_nat (by rw [List.getElem?_map, h]; rfl)
theorem at_rD {l : List (List Nat)} {i : Nat} {x : List Nat} (h : l[i]? = some x) : L2.atI (l.map rD) (i : Int) = some (rD x) := L2.atI_nat (by rw [List.getElem?_map, h]; rfl)
theorem at_bl {l : List Bool} {i : Nat} {x : Bool} (h : l[i]? = some x) : L2.atI (l.map D.bl) (i : Int) = some (.bl x) := L2.atI_nat (by rw [List.getElem?_map, h]; rfl)
theorem at_enc {α : Type} {enc : α → D} {l : List α} {i : Nat} {x : α} (h : l[i]? = some x) : L2.atI (l.map enc) (i : Int) = some (enc x) := L2.atI_nat (by rw [List.getElem?_map, h]; rfl)
theorem ix_1 (A : Lt) : ixD (lD A) (.int 1) = pure (mvD A.mv) := rfl
theorem ix_2 (A : Lt) : ixD (lD A) (.int 2) = pure (gdD A.gd) := rfl
theorem ix_3 (A : Lt) : ixD (lD A) (.int 3) = pure (rD A.bg) := rfl
theorem ix_nD {l : List Nat} {i x : Nat} (h : l[i]? = some x) : ixD (rD l) (nD i) = pure (nD x) := by simp only [ixD, at_nD h]
theorem ix_rD {l : List (List Nat)} {i : Nat} {x : List Nat} (h : l[i]? = some x) : ixD (mvD l) (nD i) = pure (rD x) := by simp only [ixD, at_rD h]
theorem ix_bl {l : List Bool} {i : Nat} {x : Bool} (h : l[i]? = some x) : ixD (gdD l) (nD i) = pure (.bl x) := by simp only [ixD, at_bl h]
theorem ix_row {A : Lt} (h : A.Ok) {s : Nat} (hs : s < A.mv.length) : ixD (mvD A.mv) (nD s) = pure (rD (A.row s)) := ix_rD (h.row_at hs)
theorem ix_go {A : Lt} (h : A.Ok) {s k : Nat} (hs : s < A.mv.length) (hk : k < 2 ^ A.c) : ixD (rD (A.row s)) (nD k) = pure (nD (A.go s k)) := ix_nD (h.go_at hs hk)
theorem ix_good {A : Lt} (h : A.Ok) {s : Nat} (hs : s < A.mv.length) : ixD (gdD A.gd) (nD s) = pure (.bl (A.good s)) := ix_bl (h.good_at hs)
theorem pow_cond {c : Nat} (h : c ≤ 1000) : CPow 1 (c : Int) := ⟨by omega, by omega, by decide⟩
theorem shl_c {c : Nat} (h : c ≤ 1000) : shlD (.int 1) (nD c) = pure (nD (2 ^ c)) := by
  simp only [shlD, i2, WP.need_of (pow_cond h)]
  congr 2
  simp
theorem rng_n {n : Nat} (h : n ≤ 1000000) : rng1 [nD n] = pure ((List.range n).map nD) := by
  have h1 : (-(2 ^ 62) : Int) ≤ (n : Int) ∧ (n : Int).toNat ≤ sizeLine := ⟨by omega, by have := szM h; simpa using this⟩
  simp only [rng1]
  rw [WP.need_of h1, Int.toNat_natCast, rangeL_nat]
/-! ### loops -/
theorem sSeq_nx {t v : SW} {ρ ρ' : Env'} (h : t ρ = pure (.nx ρ')) : sSeq t v ρ = v ρ' := by
  simp only [sSeq, h, WP.pure_bind]
theorem sFor_of {ti : AW} {t : Tgt} {tb : SW} {ρ : Env'} {xs : List D} (h : ti ρ = pure xs) : sFor ti t tb ρ = forL t tb xs ρ := by
  simp only [sFor, h, WP.pure_bind]
theorem forL_idx {α : Type} {t : Tgt} {tb : SW} (enc : α → D) (I : Nat → Env' → Prop) (xs : List α) {ρ : Env'} (h0 : I 0 ρ)
    (h : ∀ i x ρ, xs[i]? = some x → I i ρ → ∃ ρ1 ρ2, t.st (enc x) ρ = some ρ1 ∧ (tb ρ1 = pure (.nx ρ2) ∨ tb ρ1 = pure (.ct ρ2)) ∧ I (i + 1) ρ2) : ∃ ρ', forL t tb (xs.map enc) ρ = pure (.nx ρ') ∧ I xs.length ρ' := by
  have go : ∀ (l : List α) (j : Nat) (ρ : Env'), I j ρ → (∀ i x, l[i]? = some x → xs[j + i]? = some x) → ∃ ρ', forL t tb (l.map enc) ρ = pure (.nx ρ') ∧ I (j + l.length) ρ' := fun l => by
    induction l with
    | nil => exact fun j ρ hi _ => ⟨ρ, rfl, hi⟩
    | cons x l ih =>
      intro j ρ hi hx
      obtain ⟨ρ1, ρ2, h1, h2, h3⟩ := h j x ρ (by have := hx 0 x rfl; simpa using this) hi
      obtain ⟨ρ', h4, h5⟩ := ih (j + 1) ρ2 h3 fun i y hy => by
        have := hx (i + 1) y (by simpa using hy)
        rwa [show j + 1 + i = j + (i + 1) by omega]
      refine ⟨ρ', ?_, by rw [List.length_cons, show j + (l.length + 1) = j + 1 + l.length by omega]; exact h5⟩
      rcases h2 with h2 | h2 <;>
        (simp only [List.map_cons, forL, h1, h2, WP.pure_bind]
         exact h4)
  have := go xs 0 ρ h0 fun i x hx => by rw [Nat.zero_add]; exact hx
  rwa [Nat.zero_add] at this
theorem range_at {n i k : Nat} (h : (List.range n)[i]? = some k) : i = k ∧ k < n := by
  have hi := (List.getElem?_eq_some_iff.mp h).1
  rw [List.length_range] at hi
  rw [List.getElem?_range hi] at h
  cases h
  exact ⟨rfl, hi⟩
theorem visits_snoc {V : Type} [DecidableEq V] (row : List V) (f : Nat → V) (k : Nat) : visits row ((List.range (k + 1)).map f) = visit (visits row ((List.range k).map f)) (f k) := by
  rw [List.range_succ, List.map_append, visits_append]; rfl
theorem take_snoc {α : Type} {l : List α} {i : Nat} {x : α} (h : l[i]? = some x) : l.take (i + 1) = l.take i ++ [x] := by
  obtain ⟨hi, e⟩ := List.getElem?_eq_some_iff.mp h
  rw [List.take_add_one, h]; rfl
theorem any_const {α β : Type} {P : α → Prop} {f : α → WP β} {g : WP β} (ex : ∃ a, P a) (h : ∀ a, P a → f a = g) : (WP.any P >>= f) = g := by
  ext b Q E
  show (∀ a, P a → (f a).run b Q E) ↔ _
  refine ⟨fun z => ?_, fun z a ha => by rw [h a ha]; exact z⟩
  obtain ⟨a, ha⟩ := ex
  rw [← h a ha]
  exact z a ha
/-- put into its place -/
def insS (x : Int) : List Int → List Int
  | [] => [x]
  | y :: l => if x < y then x :: y :: l else if x = y then y :: l else y :: insS x l
theorem mem_insS {x z : Int} : ∀ {l : List Int}, z ∈ insS x l ↔ z = x ∨ z ∈ l
  | [] => by simp [insS]
  | y :: l => by
    unfold insS
    split
    · simp
    · split
      · rename_i e; subst e; simp
      · rw [List.mem_cons, mem_insS, List.mem_cons]
        exact ⟨fun h => h.elim (fun a => .inr (.inl a)) fun b => b.elim .inl fun c => .inr (.inr c), fun h => h.elim (fun a => .inr (.inl a)) fun b => b.elim .inl fun c => .inr (.inr c)⟩
theorem pw_insS {x : Int} : ∀ {l : List Int}, l.Pairwise (· < ·) → (insS x l).Pairwise (· < ·)
  | [], _ => List.pairwise_singleton _ _
  | y :: l, h => by
    have ⟨h1, h2⟩ := List.pairwise_cons.mp h
    unfold insS
    split
    · rename_i lt
      exact List.pairwise_cons.mpr ⟨fun z hz => (List.mem_cons.mp hz).elim (fun e => e ▸ lt) fun m => Int.lt_trans lt (h1 z m), h⟩
    · rename_i nlt
      split
      · exact h
      · rename_i ne
        refine List.pairwise_cons.mpr ⟨fun z hz => ?_, pw_insS h2⟩
        rcases mem_insS.mp hz with e | m
        · rw [e]; omega
        · exact h1 z m
theorem srt_ex : ∀ ns : List Int, ∃ m, SrtSet ns m
  | [] => ⟨[], .nil, fun k => Iff.rfl⟩
  | x :: ns => by
    obtain ⟨m, h1, h2⟩ := srt_ex ns
    exact ⟨insS x m, pw_insS h1, fun k => by rw [mem_insS, h2, List.mem_cons]⟩
theorem srt_len {K : List Nat} {m : List Int} (h : SrtSet (K.map fun i : Nat => (i : Int)) m) : m.length = (visits [] K).length := by
  have nd : m.Nodup := h.1.imp fun h e => by rw [e] at h; exact absurd h (Int.lt_irrefl _)
  refine Nat.le_antisymm ?_ ?_
  · have := nodup_le (m := (visits [] K).map fun i : Nat => (i : Int)) nd fun x hx => by
      obtain ⟨i, hi, rfl⟩ := List.mem_map.mp ((h.2 x).mp hx)
      exact List.mem_map.mpr ⟨i, mem_dedup.mpr hi, rfl⟩
    simpa using this
  · have nd2 : ((visits [] K).map fun i : Nat => (i : Int)).Nodup := List.Pairwise.map _ (R := fun a b => a ≠ b) (fun a b h e => h (by omega)) (dedup_nodup K)
    have := nodup_le (m := m) nd2 fun x hx => by
      obtain ⟨i, hi, rfl⟩ := List.mem_map.mp hx
      exact (h.2 _).mpr (List.mem_map.mpr ⟨i, mem_dedup.mp hi, rfl⟩)
    simpa using this
theorem ints_nD (K : List Nat) : intsD (K.map nD) = some (K.map fun i : Nat => (i : Int)) := by
  have := intsD_map (K.map fun i : Nat => (i : Int))
  rw [List.map_map] at this
  exact this
/-- len(sorted(set(K))) -/
theorem len_srt {K : List Nat} {te : EW} {ρ : Env'} (h : te ρ = pure (.lst (K.map nD))) (hz : K.length < 64) : (eSrtSet te ρ >>= lenL) = pure (nD (visits [] K).length) := by
  have hz' : (K.map fun i : Nat => (i : Int)).length < 64 := by simpa using hz
  simp only [eSrtSet, h, WP.pure_bind, ints_nD, WP.need_of hz']
  rw [WP.bind_assoc]
  refine any_const (srt_ex _) fun m hm => ?_
  simp only [WP.pure_bind, lenL, List.length_map, srt_len hm]
theorem enum_rows {l : List (List Nat)} : enumL (l.map rD) = (List.range l.length).map fun i => .tup [nD i, rD ((l[i]?).getD [])] := by
  refine List.ext_getElem (by simp [enumL]) fun i h1 h2 => ?_
  have hi : i < l.length := by simpa using h2
  simp [enumL, hi]
theorem enum_nats {l : List Nat} : enumL (l.map nD) = (List.range l.length).map fun i => .tup [nD i, nD (kAt l i)] := by
  refine List.ext_getElem (by simp [enumL]) fun i h1 h2 => ?_
  have hi : i < l.length := by simpa using h2
  simp [enumL, hi, kAt]
theorem ix_lst {l : List Nat} {i x : Nat} (h : l[i]? = some x) : ixD (.lst (l.map nD)) (nD i) = pure (nD x) := by simp only [ixD, at_nD h]
/-! ### dicts that number -/
def numD {V : Type} (enc : V → D) (row : List V) (n : Nat) : List (D × D) := (row.zipIdx n).map fun p => (enc p.1, nD p.2)
section
variable {V : Type} [DecidableEq V] {enc : V → D} (key : ∀ v, KeyD (enc v)) (inj : ∀ v w, enc v = enc w → v = w)
include key inj
theorem nk_iff {v w : V} : (enc v).nk = (enc w).nk ↔ v = w := by
  refine ⟨fun e => ?_, fun e => by rw [e]⟩
  obtain ⟨k, h1, _⟩ := key v
  exact inj v w (D.nk_inj h1 (e ▸ h1))
theorem lk_numD {v : V} : ∀ (row : List V) (n : Nat), lkD (numD enc row n) (enc v) = if v ∈ row then some (nD (n + ixOf row v)) else none
  | [], n => rfl
  | w :: row, n => by
    have ih := lk_numD (v := v) row (n + 1)
    unfold numD lkD at ih ⊢
    rw [List.zipIdx_cons, List.map_cons, List.find?_cons]
    by_cases e : w = v
    · subst e
      simp [ixOf, List.idxOf_cons]
    · have h1 : ¬ (enc w).nk = (enc v).nk := fun z => e ((nk_iff key inj).mp z)
      have h2 : ¬ v = w := fun z => e z.symm
      simp only [h1, decide_false]
      rw [ih]
      by_cases hm : v ∈ row
      · have h3 : v ∈ w :: row := List.mem_cons_of_mem _ hm
        rw [if_pos hm, if_pos h3]
        have : (w == v) = false := beq_false_of_ne e
        simp only [ixOf, List.idxOf_cons, this]
        congr 2
        simp only [cond_false]
        omega
      · have h3 : ¬ v ∈ w :: row := fun z => (List.mem_cons.mp z).elim h2 hm
        rw [if_neg hm, if_neg h3]
theorem lk_num {v : V} {row : List V} : lkD (numD enc row 0) (enc v) = if v ∈ row then some (nD (ixOf row v)) else none := by
  have := lk_numD key inj (v := v) row 0
  rwa [Nat.zero_add] at this
omit key inj in
theorem num_snoc {v : V} {row : List V} : numD enc row 0 ++ [(enc v, nD row.length)] = numD enc (row ++ [v]) 0 := by
  unfold numD
  rw [List.zipIdx_append, List.map_append]
  simp
omit key inj in
theorem num_len {row : List V} {n : Nat} : (numD enc row n).length = row.length := by simp [numD]
theorem put_num {v : V} {row : List V} (h : v ∉ row) : putD (numD enc row 0) (enc v) (nD row.length) = numD enc (row ++ [v]) 0 := by
  unfold putD
  rw [lk_num key inj, if_neg h]
  simp only [Option.isSome_none, Bool.false_eq_true, if_false]
  exact num_snoc
end
theorem key_int (i : Int) : KeyD (.int i) := ⟨.num i, rfl, by simp [NestedKey.depth], fun x z => by cases z⟩
theorem key_nat (i : Nat) : KeyD (nD i) := key_int _
theorem nD_inj (a b : Nat) (h : nD a = nD b) : a = b := by
  have := D.int.inj h
  omega
theorem nks_row : ∀ l : List Nat, D.nks (l.map nD) = some (l.map fun i : Nat => .num (i : Int))
  | [] => rfl
  | a :: l => by simp [D.nks, D.nk, nks_row l]
theorem depth_nums : ∀ l : List Nat, NestedKey.depthAll (l.map fun i : Nat => NestedKey.num (i : Int)) ≤ 3
  | [] => by simp [NestedKey.depthAll]
  | a :: l => by
    have := depth_nums l
    simp [NestedKey.depthAll, NestedKey.depth] at this ⊢
    omega
theorem key_row (l : List Nat) : KeyD (rD l) := ⟨.tup (l.map fun i : Nat => .num (i : Int)), by simp [D.nk, nks_row], by
  have := depth_nums l
  simp [NestedKey.depth] at this ⊢
  omega, fun x z => by cases z⟩
theorem map_nD_inj : ∀ (a b : List Nat), a.map nD = b.map nD → a = b
  | [], [], _ => rfl
  | [], _ :: _, h => nomatch h
  | _ :: _, [], h => nomatch h
  | x :: a, y :: b, h => by
    rw [List.map_cons, List.map_cons, List.cons.injEq] at h
    rw [nD_inj _ _ h.1, map_nD_inj a b h.2]
theorem rD_inj (a b : List Nat) (h : rD a = rD b) : a = b := map_nD_inj a b (D.tup.inj h)
end L2.NW.Au
end
section
set_option Elab.async false
set_option autoImplicit false
set_option linter.all false
set_option maxRecDepth 100000
set_option maxHeartbeats 2000000
/-! k24, the plain law: small defs, the class Lot -/
namespace K24
open PySem PySem.Spec PyProof.Rows L2 L2.NW L2.NW.Au
/-! ### what is asked of any value -/
def isInt : D → Bool
  | .int _ => true
  | _ => false
theorem isi_int {d : D} {t : String} (h : tyOf d = some t) : isiD ["int"] d = pure (.bl (t == "int" || t == "bool")) ∧ isiD ["bool"] d = pure (.bl (t == "bool")) := by
  unfold isiD
  rw [h]
  have := tyOf_mem h
  simp only [tys, List.mem_cons, List.not_mem_nil, or_false] at this
  rcases this with rfl | rfl | rfl | rfl | rfl | rfl | rfl <;> exact ⟨rfl, rfl⟩
theorem ty_int {d : D} {t : String} (h : tyOf d = some t) : (t == "int") = isInt d := by
  cases d <;> simp [tyOf] at h <;> subst h <;> rfl
theorem m_is_integer_eq {d : D} {t : String} (h : tyOf d = some t) : m_is_integer [d] = pure (.bl (isInt d)) := by
  obtain ⟨h1, h2⟩ := isi_int h
  have e : m_is_integer [d] = (isiD ["int"] d >>= fun x => tst x >>= fun c => if c then (isiD ["bool"] d >>= fun y => tst y >>= fun c => pure (.bl (!c))) else pure (.bl false)) := by
    rfl
  rw [e, h1, h2, ← ty_int h]
  have := tyOf_mem h
  simp only [tys, List.mem_cons, List.not_mem_nil, or_false] at this
  rcases this with rfl | rfl | rfl | rfl | rfl | rfl | rfl <;> rfl
def cnt : D → Bool
  | .int i => decide (0 ≤ i)
  | _ => false
theorem m_is_count_eq {d : D} {t : String} (h : tyOf d = some t) : m_is_count [d] = pure (.bl (cnt d)) := by
  simp [eVar, eC, e1, e2, aN, aC, eCall, eMk, eTup, lLst, eOfL, eBI, lBI, bV, bC, bNot, bAnd, bOr, bT, eAnd, eOr, eNot, eIf, oN, oS, iSeq', iOf, sFz, sNext, sSeq, sBreak, sCont, sExpr, sRet, sRetN, sSet, sIf, sFor, sUnp, sPar, sSetOwn, sAppend, sSetIx, sFldD, sRaise, bodyD, startD, tst, oInt, eSl, seq_tup, seq_lst, rng1, rng2, enum1, zip2, zip3, lenL, tupL, lenD, tupD, NW.intD, listD, i2, addD, subD, mulI, fdivD, modD, ltD, leD, gtD, geD, eqD, neD, isND, notND, isNone, ixD, negD, revD, insD, endI, bodyI, frz, Tgt.st, Tgt.sts, shlD, bOwn, eOwn, eOwnL, ownAt, Sl.isOwn, isOk, inG, getG, inLO, inGD, sPutG, sSetdG, eLenO, eLenG, ixO, sParX, sParN, xsM, setAll, xVal, xOwn, lRep, lRg, sSetX, wipeD, m_is_count, t_is_count, m_is_integer_eq h]
  cases d <;> simp [eVar, eC, e1, e2, aN, aC, eCall, eMk, eTup, lLst, eOfL, eBI, lBI, bV, bC, bNot, bAnd, bOr, bT, eAnd, eOr, eNot, eIf, oN, oS, iSeq', iOf, sFz, sNext, sSeq, sBreak, sCont, sExpr, sRet, sRetN, sSet, sIf, sFor, sUnp, sPar, sSetOwn, sAppend, sSetIx, sFldD, sRaise, bodyD, startD, tst, oInt, eSl, seq_tup, seq_lst, rng1, rng2, enum1, zip2, zip3, lenL, tupL, lenD, tupD, NW.intD, listD, i2, addD, subD, mulI, fdivD, modD, ltD, leD, gtD, geD, eqD, neD, isND, notND, isNone, ixD, negD, revD, insD, endI, bodyI, frz, Tgt.st, Tgt.sts, shlD, bOwn, eOwn, eOwnL, ownAt, Sl.isOwn, isOk, inG, getG, inLO, inGD, sPutG, sSetdG, eLenO, eLenG, ixO, sParX, sParN, xsM, setAll, xVal, xOwn, lRep, lRg, sSetX, wipeD, isInt, cnt]
theorem m_is_below_eq {d : D} {t : String} {n : Int} (h : tyOf d = some t) : m_is_below [d, .int n] = pure (.bl (match d with | .int i => decide (0 ≤ i ∧ i < n) | _ => false)) := by
  simp [eVar, eC, e1, e2, aN, aC, eCall, eMk, eTup, lLst, eOfL, eBI, lBI, bV, bC, bNot, bAnd, bOr, bT, eAnd, eOr, eNot, eIf, oN, oS, iSeq', iOf, sFz, sNext, sSeq, sBreak, sCont, sExpr, sRet, sRetN, sSet, sIf, sFor, sUnp, sPar, sSetOwn, sAppend, sSetIx, sFldD, sRaise, bodyD, startD, tst, oInt, eSl, seq_tup, seq_lst, rng1, rng2, enum1, zip2, zip3, lenL, tupL, lenD, tupD, NW.intD, listD, i2, addD, subD, mulI, fdivD, modD, ltD, leD, gtD, geD, eqD, neD, isND, notND, isNone, ixD, negD, revD, insD, endI, bodyI, frz, Tgt.st, Tgt.sts, shlD, bOwn, eOwn, eOwnL, ownAt, Sl.isOwn, isOk, inG, getG, inLO, inGD, sPutG, sSetdG, eLenO, eLenG, ixO, sParX, sParN, xsM, setAll, xVal, xOwn, lRep, lRg, sSetX, wipeD, m_is_below, t_is_below, m_is_count_eq h]
  cases d <;> simp [eVar, eC, e1, e2, aN, aC, eCall, eMk, eTup, lLst, eOfL, eBI, lBI, bV, bC, bNot, bAnd, bOr, bT, eAnd, eOr, eNot, eIf, oN, oS, iSeq', iOf, sFz, sNext, sSeq, sBreak, sCont, sExpr, sRet, sRetN, sSet, sIf, sFor, sUnp, sPar, sSetOwn, sAppend, sSetIx, sFldD, sRaise, bodyD, startD, tst, oInt, eSl, seq_tup, seq_lst, rng1, rng2, enum1, zip2, zip3, lenL, tupL, lenD, tupD, NW.intD, listD, i2, addD, subD, mulI, fdivD, modD, ltD, leD, gtD, geD, eqD, neD, isND, notND, isNone, ixD, negD, revD, insD, endI, bodyI, frz, Tgt.st, Tgt.sts, shlD, bOwn, eOwn, eOwnL, ownAt, Sl.isOwn, isOk, inG, getG, inLO, inGD, sPutG, sSetdG, eLenO, eLenG, ixO, sParX, sParN, xsM, setAll, xVal, xOwn, lRep, lRg, sSetX, wipeD, cnt]
  rename_i i
  by_cases h1 : 0 ≤ i <;> simp [eVar, eC, e1, e2, aN, aC, eCall, eMk, eTup, lLst, eOfL, eBI, lBI, bV, bC, bNot, bAnd, bOr, bT, eAnd, eOr, eNot, eIf, oN, oS, iSeq', iOf, sFz, sNext, sSeq, sBreak, sCont, sExpr, sRet, sRetN, sSet, sIf, sFor, sUnp, sPar, sSetOwn, sAppend, sSetIx, sFldD, sRaise, bodyD, startD, tst, oInt, eSl, seq_tup, seq_lst, rng1, rng2, enum1, zip2, zip3, lenL, tupL, lenD, tupD, NW.intD, listD, i2, addD, subD, mulI, fdivD, modD, ltD, leD, gtD, geD, eqD, neD, isND, notND, isNone, ixD, negD, revD, insD, endI, bodyI, frz, Tgt.st, Tgt.sts, shlD, bOwn, eOwn, eOwnL, ownAt, Sl.isOwn, isOk, inG, getG, inLO, inGD, sPutG, sSetdG, eLenO, eLenG, ixO, sParX, sParN, xsM, setAll, xVal, xOwn, lRep, lRg, sSetX, wipeD, h1]
theorem m_is_row_tup {l : List D} : m_is_row [.tup l] = pure (.bl true) := by
  simp [eVar, eC, e1, e2, aN, aC, eCall, eMk, eTup, lLst, eOfL, eBI, lBI, bV, bC, bNot, bAnd, bOr, bT, eAnd, eOr, eNot, eIf, oN, oS, iSeq', iOf, sFz, sNext, sSeq, sBreak, sCont, sExpr, sRet, sRetN, sSet, sIf, sFor, sUnp, sPar, sSetOwn, sAppend, sSetIx, sFldD, sRaise, bodyD, startD, tst, oInt, eSl, seq_tup, seq_lst, rng1, rng2, enum1, zip2, zip3, lenL, tupL, lenD, tupD, NW.intD, listD, i2, addD, subD, mulI, fdivD, modD, ltD, leD, gtD, geD, eqD, neD, isND, notND, isNone, ixD, negD, revD, insD, endI, bodyI, frz, Tgt.st, Tgt.sts, shlD, bOwn, eOwn, eOwnL, ownAt, Sl.isOwn, isOk, inG, getG, inLO, inGD, sPutG, sSetdG, eLenO, eLenG, ixO, sParX, sParN, xsM, setAll, xVal, xOwn, lRep, lRg, sSetX, wipeD, m_is_row, t_is_row, isiD, tyOf, isTs]
theorem m_are_states_eq {l : List Nat} {m n : Nat} : m_are_states [rD l, nD m, nD n] = pure (.bl (decide (l.length = m) && l.all fun x => decide (x < n))) := by
  simp [eVar, eC, e1, e2, aN, aC, eCall, eMk, eTup, lLst, eOfL, eBI, lBI, bV, bC, bNot, bAnd, bOr, bT, eAnd, eOr, eNot, eIf, oN, oS, iSeq', iOf, sFz, sNext, sSeq, sBreak, sCont, sExpr, sRet, sRetN, sSet, sIf, sFor, sUnp, sPar, sSetOwn, sAppend, sSetIx, sFldD, sRaise, bodyD, startD, tst, oInt, eSl, seq_tup, seq_lst, rng1, rng2, enum1, zip2, zip3, lenL, tupL, lenD, tupD, NW.intD, listD, i2, addD, subD, mulI, fdivD, modD, ltD, leD, gtD, geD, eqD, neD, isND, notND, isNone, ixD, negD, revD, insD, endI, bodyI, frz, Tgt.st, Tgt.sts, shlD, bOwn, eOwn, eOwnL, ownAt, Sl.isOwn, isOk, inG, getG, inLO, inGD, sPutG, sSetdG, eLenO, eLenG, ixO, sParX, sParN, xsM, setAll, xVal, xOwn, lRep, lRg, sSetX, wipeD, m_are_states, t_are_states, eLc, wipeD, m_is_row_tup, deep_int, deq_int]
  rw [lcL_enc nD (fun x => .bl (decide (x < n))) l fun x _ => ⟨_, rfl, by simp [eVar, eC, e1, e2, aN, aC, eCall, eMk, eTup, lLst, eOfL, eBI, lBI, bV, bC, bNot, bAnd, bOr, bT, eAnd, eOr, eNot, eIf, oN, oS, iSeq', iOf, sFz, sNext, sSeq, sBreak, sCont, sExpr, sRet, sRetN, sSet, sIf, sFor, sUnp, sPar, sSetOwn, sAppend, sSetIx, sFldD, sRaise, bodyD, startD, tst, oInt, eSl, seq_tup, seq_lst, rng1, rng2, enum1, zip2, zip3, lenL, tupL, lenD, tupD, NW.intD, listD, i2, addD, subD, mulI, fdivD, modD, ltD, leD, gtD, geD, eqD, neD, isND, notND, isNone, ixD, negD, revD, insD, endI, bodyI, frz, Tgt.st, Tgt.sts, shlD, bOwn, eOwn, eOwnL, ownAt, Sl.isOwn, isOk, inG, getG, inLO, inGD, sPutG, sSetdG, eLenO, eLenG, ixO, sParX, sParN, xsM, setAll, xVal, xOwn, lRep, lRg, sSetX, wipeD, m_is_below_eq (d := nD x) (t := "int") rfl]⟩]
  simp [allD_map]
  by_cases h : l.length = m
  · have h' : (l.length : Int) = m := by omega
    simp [h, h']
  · have h' : ¬ (l.length : Int) = m := by omega
    simp [h, h']
theorem told_int (n : Nat) (i : Int) : mr_as_told (n + 1) [.int i] = pure (.int i) := by
  simp [eVar, eC, e1, e2, aN, aC, eCall, eMk, eTup, lLst, eOfL, eBI, lBI, bV, bC, bNot, bAnd, bOr, bT, eAnd, eOr, eNot, eIf, oN, oS, iSeq', iOf, sFz, sNext, sSeq, sBreak, sCont, sExpr, sRet, sRetN, sSet, sIf, sFor, sUnp, sPar, sSetOwn, sAppend, sSetIx, sFldD, sRaise, bodyD, startD, tst, oInt, eSl, seq_tup, seq_lst, rng1, rng2, enum1, zip2, zip3, lenL, tupL, lenD, tupD, NW.intD, listD, i2, addD, subD, mulI, fdivD, modD, ltD, leD, gtD, geD, eqD, neD, isND, notND, isNone, ixD, negD, revD, insD, endI, bodyI, frz, Tgt.st, Tgt.sts, shlD, bOwn, eOwn, eOwnL, ownAt, Sl.isOwn, isOk, inG, getG, inLO, inGD, sPutG, sSetdG, eLenO, eLenG, ixO, sParX, sParN, xsM, setAll, xVal, xOwn, lRep, lRg, sSetX, wipeD, mr_as_told, t_as_told, isiD, tyOf, isTs]
theorem told_bl (n : Nat) (i : Bool) : mr_as_told (n + 1) [.bl i] = pure (.bl i) := by
  simp [eVar, eC, e1, e2, aN, aC, eCall, eMk, eTup, lLst, eOfL, eBI, lBI, bV, bC, bNot, bAnd, bOr, bT, eAnd, eOr, eNot, eIf, oN, oS, iSeq', iOf, sFz, sNext, sSeq, sBreak, sCont, sExpr, sRet, sRetN, sSet, sIf, sFor, sUnp, sPar, sSetOwn, sAppend, sSetIx, sFldD, sRaise, bodyD, startD, tst, oInt, eSl, seq_tup, seq_lst, rng1, rng2, enum1, zip2, zip3, lenL, tupL, lenD, tupD, NW.intD, listD, i2, addD, subD, mulI, fdivD, modD, ltD, leD, gtD, geD, eqD, neD, isND, notND, isNone, ixD, negD, revD, insD, endI, bodyI, frz, Tgt.st, Tgt.sts, shlD, bOwn, eOwn, eOwnL, ownAt, Sl.isOwn, isOk, inG, getG, inLO, inGD, sPutG, sSetdG, eLenO, eLenG, ixO, sParX, sParN, xsM, setAll, xVal, xOwn, lRep, lRg, sSetX, wipeD, mr_as_told, t_as_told, isiD, tyOf, isTs]
theorem told_of {α : Type} {n : Nat} {enc : α → D} {l : List α} (h : ∀ x ∈ l, mr_as_told n [enc x] = pure (enc x)) : mr_as_told (n + 1) [.tup (l.map enc)] = pure (.tup (l.map enc)) := by
  rw [show mr_as_told (n + 1) = bodyD 2 (t_as_told (mr_as_told n)) from rfl]
  simp [eVar, eC, e1, e2, aN, aC, eCall, eMk, eTup, lLst, eOfL, eBI, lBI, bV, bC, bNot, bAnd, bOr, bT, eAnd, eOr, eNot, eIf, oN, oS, iSeq', iOf, sFz, sNext, sSeq, sBreak, sCont, sExpr, sRet, sRetN, sSet, sIf, sFor, sUnp, sPar, sSetOwn, sAppend, sSetIx, sFldD, sRaise, bodyD, startD, tst, oInt, eSl, seq_tup, seq_lst, rng1, rng2, enum1, zip2, zip3, lenL, tupL, lenD, tupD, NW.intD, listD, i2, addD, subD, mulI, fdivD, modD, ltD, leD, gtD, geD, eqD, neD, isND, notND, isNone, ixD, negD, revD, insD, endI, bodyI, frz, Tgt.st, Tgt.sts, shlD, bOwn, eOwn, eOwnL, ownAt, Sl.isOwn, isOk, inG, getG, inLO, inGD, sPutG, sSetdG, eLenO, eLenG, ixO, sParX, sParN, xsM, setAll, xVal, xOwn, lRep, lRg, sSetX, wipeD, t_as_told, isiD, tyOf, isTs, eLc, wipeD]
  rw [lcL_enc enc enc l fun x hx => ⟨_, rfl, by simp [eVar, eC, e1, e2, aN, aC, eCall, eMk, eTup, lLst, eOfL, eBI, lBI, bV, bC, bNot, bAnd, bOr, bT, eAnd, eOr, eNot, eIf, oN, oS, iSeq', iOf, sFz, sNext, sSeq, sBreak, sCont, sExpr, sRet, sRetN, sSet, sIf, sFor, sUnp, sPar, sSetOwn, sAppend, sSetIx, sFldD, sRaise, bodyD, startD, tst, oInt, eSl, seq_tup, seq_lst, rng1, rng2, enum1, zip2, zip3, lenL, tupL, lenD, tupD, NW.intD, listD, i2, addD, subD, mulI, fdivD, modD, ltD, leD, gtD, geD, eqD, neD, isND, notND, isNone, ixD, negD, revD, insD, endI, bodyI, frz, Tgt.st, Tgt.sts, shlD, bOwn, eOwn, eOwnL, ownAt, Sl.isOwn, isOk, inG, getG, inLO, inGD, sPutG, sSetdG, eLenO, eLenG, ixO, sParX, sParN, xsM, setAll, xVal, xOwn, lRep, lRg, sSetX, wipeD, h x hx]⟩]
  simp
theorem told_row (n : Nat) (l : List Nat) : mr_as_told (n + 2) [rD l] = pure (rD l) := told_of fun x _ => told_int n x
theorem told_mv (n : Nat) (l : List (List Nat)) : mr_as_told (n + 3) [mvD l] = pure (mvD l) := told_of fun x _ => told_row n x
theorem told_gd (n : Nat) (l : List Bool) : mr_as_told (n + 2) [gdD l] = pure (gdD l) := told_of fun x _ => told_bl n x
/-- Lot(..) of what is right -/
theorem mk_ok {A : Lt} (h : A.Ok) (hc : A.c ≤ 1000) (hn : A.mv.length ≤ 1000000) : mi_Lot [nD A.c, mvD A.mv, gdD A.gd, rD A.bg] = pure (fsL, [nD A.c, mvD A.mv, gdD A.gd, rD A.bg]) := by
  have h1 : m_need_count [.str "counters", nD A.c] = pure .non := by
    simp [eVar, eC, e1, e2, aN, aC, eCall, eMk, eTup, lLst, eOfL, eBI, lBI, bV, bC, bNot, bAnd, bOr, bT, eAnd, eOr, eNot, eIf, oN, oS, iSeq', iOf, sFz, sNext, sSeq, sBreak, sCont, sExpr, sRet, sRetN, sSet, sIf, sFor, sUnp, sPar, sSetOwn, sAppend, sSetIx, sFldD, sRaise, bodyD, startD, tst, oInt, eSl, seq_tup, seq_lst, rng1, rng2, enum1, zip2, zip3, lenL, tupL, lenD, tupD, NW.intD, listD, i2, addD, subD, mulI, fdivD, modD, ltD, leD, gtD, geD, eqD, neD, isND, notND, isNone, ixD, negD, revD, insD, endI, bodyI, frz, Tgt.st, Tgt.sts, shlD, bOwn, eOwn, eOwnL, ownAt, Sl.isOwn, isOk, inG, getG, inLO, inGD, sPutG, sSetdG, eLenO, eLenG, ixO, sParX, sParN, xsM, setAll, xVal, xOwn, lRep, lRg, sSetX, wipeD, m_need_count, t_need_count, m_is_count_eq (d := nD A.c) (t := "int") rfl, cnt]
  have h2 : ¬ (A.mv.length : Int) = 0 := by have := h.pos; omega
  have h2' : ¬ A.mv.length = 0 := by have := h.pos; omega
  have b2 : ¬ A.bg.length = 0 := by have := h.b0; omega
  have hm : A.mv ≠ [] := fun e => h2' (by rw [e]; rfl)
  have hb : A.bg ≠ [] := fun e => b2 (by rw [e]; rfl)
  have hP : (2 : Int) ^ A.c = ((2 ^ A.c : Nat) : Int) := by simp
  have a1 : (A.mv.all fun r => decide (r.length = 2 ^ A.c) && r.all fun x => decide (x < A.mv.length)) = true := by
    rw [List.all_eq_true]
    intro r hr
    rw [Bool.and_eq_true]
    exact ⟨decide_eq_true (h.len r hr), List.all_eq_true.mpr fun x hx => decide_eq_true (h.lt r hr x hx)⟩
  have a2 : (A.bg.all fun x => decide (x < A.mv.length)) = true := List.all_eq_true.mpr fun x hx => decide_eq_true (h.bl x hx)
  have a3 : ((List.range A.mv.length).any fun s => A.good s != A.good (A.go s 0)) = false := by
    rw [List.any_eq_false]
    intro s hs
    have := h.g0 s (List.mem_range.mp hs)
    simp [this]
  have t1 := told_mv 5 A.mv
  have t2 := told_gd 6 A.gd
  have t3 := told_row 6 A.bg
  have s1 := m_are_states_eq (l := A.bg) (m := A.bg.length) (n := A.mv.length)
  rw [a2] at s1
  simp [eVar, eC, e1, e2, aN, aC, eCall, eMk, eTup, lLst, eOfL, eBI, lBI, bV, bC, bNot, bAnd, bOr, bT, eAnd, eOr, eNot, eIf, oN, oS, iSeq', iOf, sFz, sNext, sSeq, sBreak, sCont, sExpr, sRet, sRetN, sSet, sIf, sFor, sUnp, sPar, sSetOwn, sAppend, sSetIx, sFldD, sRaise, bodyD, startD, tst, oInt, eSl, seq_tup, seq_lst, rng1, rng2, enum1, zip2, zip3, lenL, tupL, lenD, tupD, NW.intD, listD, i2, addD, subD, mulI, fdivD, modD, ltD, leD, gtD, geD, eqD, neD, isND, notND, isNone, ixD, negD, revD, insD, endI, bodyI, frz, Tgt.st, Tgt.sts, shlD, bOwn, eOwn, eOwnL, ownAt, Sl.isOwn, isOk, inG, getG, inLO, inGD, sPutG, sSetdG, eLenO, eLenG, ixO, sParX, sParN, xsM, setAll, xVal, xOwn, lRep, lRg, sSetX, wipeD, mi_Lot, t_mk_Lot, h1, m_is_row_tup, eLc, deep_int, deq_int, h2', hm, hb, pow_cond hc, h.gl]
  have h4 : ∀ r : List Nat, m_are_states [rD r, .int (2 ^ A.c), .int A.mv.length] = pure (.bl (decide (r.length = 2 ^ A.c) && r.all fun x => decide (x < A.mv.length))) := fun r => by rw [hP]; exact m_are_states_eq
  rw [lcL_enc rD (fun r => .bl (decide (r.length = 2 ^ A.c) && r.all fun x => decide (x < A.mv.length))) A.mv fun r _ => ⟨_, rfl, by simp [eVar, eC, e1, e2, aN, aC, eCall, eMk, eTup, lLst, eOfL, eBI, lBI, bV, bC, bNot, bAnd, bOr, bT, eAnd, eOr, eNot, eIf, oN, oS, iSeq', iOf, sFz, sNext, sSeq, sBreak, sCont, sExpr, sRet, sRetN, sSet, sIf, sFor, sUnp, sPar, sSetOwn, sAppend, sSetIx, sFldD, sRaise, bodyD, startD, tst, oInt, eSl, seq_tup, seq_lst, rng1, rng2, enum1, zip2, zip3, lenL, tupL, lenD, tupD, NW.intD, listD, i2, addD, subD, mulI, fdivD, modD, ltD, leD, gtD, geD, eqD, neD, isND, notND, isNone, ixD, negD, revD, insD, endI, bodyI, frz, Tgt.st, Tgt.sts, shlD, bOwn, eOwn, eOwnL, ownAt, Sl.isOwn, isOk, inG, getG, inLO, inGD, sPutG, sSetdG, eLenO, eLenG, ixO, sParX, sParN, xsM, setAll, xVal, xOwn, lRep, lRg, sSetX, wipeD, pow_cond hc, h4]⟩]
  have n1 : (-4611686018427387904 : Int) ≤ A.mv.length := by omega
  have n2 : A.mv.length ≤ sizeLine := szM hn
  simp [eVar, eC, e1, e2, aN, aC, eCall, eMk, eTup, lLst, eOfL, eBI, lBI, bV, bC, bNot, bAnd, bOr, bT, eAnd, eOr, eNot, eIf, oN, oS, iSeq', iOf, sFz, sNext, sSeq, sBreak, sCont, sExpr, sRet, sRetN, sSet, sIf, sFor, sUnp, sPar, sSetOwn, sAppend, sSetIx, sFldD, sRaise, bodyD, startD, tst, oInt, eSl, seq_tup, seq_lst, rng1, rng2, enum1, zip2, zip3, lenL, tupL, lenD, tupD, NW.intD, listD, i2, addD, subD, mulI, fdivD, modD, ltD, leD, gtD, geD, eqD, neD, isND, notND, isNone, ixD, negD, revD, insD, endI, bodyI, frz, Tgt.st, Tgt.sts, shlD, bOwn, eOwn, eOwnL, ownAt, Sl.isOwn, isOk, inG, getG, inLO, inGD, sPutG, sSetdG, eLenO, eLenG, ixO, sParX, sParN, xsM, setAll, xVal, xOwn, lRep, lRg, sSetX, wipeD, allD_map, a1, m_is_row_tup, deep_int, deq_int, h.gl]
  rw [lcL_enc D.bl (fun r => .bl true) A.gd fun r _ => ⟨_, rfl, by simp [eVar, eC, e1, e2, aN, aC, eCall, eMk, eTup, lLst, eOfL, eBI, lBI, bV, bC, bNot, bAnd, bOr, bT, eAnd, eOr, eNot, eIf, oN, oS, iSeq', iOf, sFz, sNext, sSeq, sBreak, sCont, sExpr, sRet, sRetN, sSet, sIf, sFor, sUnp, sPar, sSetOwn, sAppend, sSetIx, sFldD, sRaise, bodyD, startD, tst, oInt, eSl, seq_tup, seq_lst, rng1, rng2, enum1, zip2, zip3, lenL, tupL, lenD, tupD, NW.intD, listD, i2, addD, subD, mulI, fdivD, modD, ltD, leD, gtD, geD, eqD, neD, isND, notND, isNone, ixD, negD, revD, insD, endI, bodyI, frz, Tgt.st, Tgt.sts, shlD, bOwn, eOwn, eOwnL, ownAt, Sl.isOwn, isOk, inG, getG, inLO, inGD, sPutG, sSetdG, eLenO, eLenG, ixO, sParX, sParN, xsM, setAll, xVal, xOwn, lRep, lRg, sSetX, wipeD, isiD, tyOf, isTs]⟩]
  simp [eVar, eC, e1, e2, aN, aC, eCall, eMk, eTup, lLst, eOfL, eBI, lBI, bV, bC, bNot, bAnd, bOr, bT, eAnd, eOr, eNot, eIf, oN, oS, iSeq', iOf, sFz, sNext, sSeq, sBreak, sCont, sExpr, sRet, sRetN, sSet, sIf, sFor, sUnp, sPar, sSetOwn, sAppend, sSetIx, sFldD, sRaise, bodyD, startD, tst, oInt, eSl, seq_tup, seq_lst, rng1, rng2, enum1, zip2, zip3, lenL, tupL, lenD, tupD, NW.intD, listD, i2, addD, subD, mulI, fdivD, modD, ltD, leD, gtD, geD, eqD, neD, isND, notND, isNone, ixD, negD, revD, insD, endI, bodyI, frz, Tgt.st, Tgt.sts, shlD, bOwn, eOwn, eOwnL, ownAt, Sl.isOwn, isOk, inG, getG, inLO, inGD, sPutG, sSetdG, eLenO, eLenG, ixO, sParX, sParN, xsM, setAll, xVal, xOwn, lRep, lRg, sSetX, wipeD, allD_map, rangeL_nat, n1, n2]
  have h5 : ∀ s, s < A.mv.length → L2.atI (A.gd.map D.bl) (s : Int) = some (.bl (A.good s)) := fun s hs => at_bl (h.good_at hs)
  have h6 : ∀ s, s < A.mv.length → L2.atI (A.mv.map rD) (s : Int) = some (rD (A.row s)) := fun s hs => at_rD (h.row_at hs)
  have h7 : ∀ s, s < A.mv.length → L2.atI ((A.row s).map nD) 0 = some (nD (A.go s 0)) := fun s hs => at_nD (h.go_at hs (two_pos A.c))
  rw [lcL_enc nD (fun s => .bl (A.good s != A.good (A.go s 0))) (List.range A.mv.length) fun s hs => ⟨_, rfl, by
    have hs := List.mem_range.mp hs
    have := h5 _ (h.go_lt hs (two_pos A.c))
    simp [eVar, eC, e1, e2, aN, aC, eCall, eMk, eTup, lLst, eOfL, eBI, lBI, bV, bC, bNot, bAnd, bOr, bT, eAnd, eOr, eNot, eIf, oN, oS, iSeq', iOf, sFz, sNext, sSeq, sBreak, sCont, sExpr, sRet, sRetN, sSet, sIf, sFor, sUnp, sPar, sSetOwn, sAppend, sSetIx, sFldD, sRaise, bodyD, startD, tst, oInt, eSl, seq_tup, seq_lst, rng1, rng2, enum1, zip2, zip3, lenL, tupL, lenD, tupD, NW.intD, listD, i2, addD, subD, mulI, fdivD, modD, ltD, leD, gtD, geD, eqD, neD, isND, notND, isNone, ixD, negD, revD, insD, endI, bodyI, frz, Tgt.st, Tgt.sts, shlD, bOwn, eOwn, eOwnL, ownAt, Sl.isOwn, isOk, inG, getG, inLO, inGD, sPutG, sSetdG, eLenO, eLenG, ixO, sParX, sParN, xsM, setAll, xVal, xOwn, lRep, lRg, sSetX, wipeD, h5 s hs, h6 s hs, h7 s hs, this, deep_bl, deq_bl]
    cases A.good s <;> cases A.good (A.go s 0) <;> rfl⟩]
  simp [eVar, eC, e1, e2, aN, aC, eCall, eMk, eTup, lLst, eOfL, eBI, lBI, bV, bC, bNot, bAnd, bOr, bT, eAnd, eOr, eNot, eIf, oN, oS, iSeq', iOf, sFz, sNext, sSeq, sBreak, sCont, sExpr, sRet, sRetN, sSet, sIf, sFor, sUnp, sPar, sSetOwn, sAppend, sSetIx, sFldD, sRaise, bodyD, startD, tst, oInt, eSl, seq_tup, seq_lst, rng1, rng2, enum1, zip2, zip3, lenL, tupL, lenD, tupD, NW.intD, listD, i2, addD, subD, mulI, fdivD, modD, ltD, leD, gtD, geD, eqD, neD, isND, notND, isNone, ixD, negD, revD, insD, endI, bodyI, frz, Tgt.st, Tgt.sts, shlD, bOwn, eOwn, eOwnL, ownAt, Sl.isOwn, isOk, inG, getG, inLO, inGD, sPutG, sSetdG, eLenO, eLenG, ixO, sParX, sParN, xsM, setAll, xVal, xOwn, lRep, lRg, sSetX, wipeD, anyD_map, a3]
  simp [eVar, eC, e1, e2, aN, aC, eCall, eMk, eTup, lLst, eOfL, eBI, lBI, bV, bC, bNot, bAnd, bOr, bT, eAnd, eOr, eNot, eIf, oN, oS, iSeq', iOf, sFz, sNext, sSeq, sBreak, sCont, sExpr, sRet, sRetN, sSet, sIf, sFor, sUnp, sPar, sSetOwn, sAppend, sSetIx, sFldD, sRaise, bodyD, startD, tst, oInt, eSl, seq_tup, seq_lst, rng1, rng2, enum1, zip2, zip3, lenL, tupL, lenD, tupD, NW.intD, listD, i2, addD, subD, mulI, fdivD, modD, ltD, leD, gtD, geD, eqD, neD, isND, notND, isNone, ixD, negD, revD, insD, endI, bodyI, frz, Tgt.st, Tgt.sts, shlD, bOwn, eOwn, eOwnL, ownAt, Sl.isOwn, isOk, inG, getG, inLO, inGD, sPutG, sSetdG, eLenO, eLenG, ixO, sParX, sParN, xsM, setAll, xVal, xOwn, lRep, lRg, sSetX, wipeD, m_is_row_tup, deep_int, deq_int, b2, hb, s1, t1, t2, t3, fsL, csF, fe1, fe2, fe3, fe4, fe5, fe6]
end K24
end
section
set_option Elab.async false
set_option autoImplicit false
set_option linter.all false
set_option maxRecDepth 100000
set_option maxHeartbeats 2000000
/-! k24, the plain law: lots made, lots compared -/
namespace K24
open PySem PySem.Spec PyProof.Rows L2 L2.NW L2.NW.Au
theorem sz4 : 4 ≤ sizeLine := szM (by decide)
theorem sz2 : 2 ≤ sizeLine := szM (by decide)
theorem sz1 : 1 ≤ sizeLine := szM (by decide)
theorem inF : ("Lot" : Str) ∈ csF := by decide +kernel
theorem plain_eq {A : Lt} : m_law_plain_lot [oD A] = pure (lD A) := by
  simp [m_law_plain_lot, t_law_plain_lot, eVar, aC, aN, e1, eTup, sRet, bodyD, startD, fld_c inF, fld_m inF, fld_g inF, fld_b inF, lD, sz4]
end K24
end
section
set_option Elab.async false
set_option autoImplicit false
set_option linter.all false
set_option maxRecDepth 100000
set_option maxHeartbeats 2000000
/-! k24, the plain law: explored -/
namespace K24
open PySem PySem.Spec PyProof.Rows L2 L2.NW L2.NW.Au
/-- a value that is new gets its number -/
def blk (i : Nat) : SW := sIf (bOwn 11 (inG true) (eVar i)) (sSeq (sPutG 11 (eVar i) (eLenO 4)) (sAppend 4 (eVar i))) sNext
section
variable {V : Type} [DecidableEq V] {enc : V → D} (key : ∀ v, KeyD (enc v)) (inj : ∀ v w, enc v = enc w → v = w)
include key inj
theorem blk6 {s0 s1 s2 s3 s5 s7 s8 s9 s10 : Sl} {row : List V} {v : V} (hz : row.length < sizeLine) :
    blk 6 [s0, s1, s2, s3, .own (row.map enc), s5, .val (enc v), s7, s8, s9, s10, .ok (numD enc row 0)] = pure (.nx [s0, s1, s2, s3, .own ((visit row v).map enc), s5, .val (enc v), s7, s8, s9, s10, .ok (numD enc (visit row v) 0)]) := by
  have hk := key v
  have lk := lk_num key inj (v := v) (row := row)
  unfold visit
  by_cases h : v ∈ row
  · rw [if_pos h] at lk ⊢
    simp [eVar, eC, e1, e2, aN, aC, eCall, eMk, eTup, lLst, eOfL, eBI, lBI, bV, bC, bNot, bAnd, bOr, bT, eAnd, eOr, eNot, eIf, oN, oS, iSeq', iOf, sFz, sNext, sSeq, sBreak, sCont, sExpr, sRet, sRetN, sSet, sIf, sFor, sUnp, sPar, sSetOwn, sAppend, sSetIx, sFldD, sRaise, bodyD, startD, tst, oInt, eSl, seq_tup, seq_lst, rng2, enum1, zip2, zip3, lenL, tupL, lenD, tupD, NW.intD, listD, i2, addD, subD, mulI, fdivD, modD, ltD, leD, gtD, geD, eqD, neD, isND, notND, isNone, negD, revD, insD, endI, bodyI, frz, Tgt.st, Tgt.sts, bOwn, eOwn, eOwnL, ownAt, Sl.isOwn, isOk, inG, getG, inLO, inGD, sPutG, sSetdG, eLenO, eLenG, ixO, sParX, sParN, xsM, setAll, xVal, xOwn, lRep, lRg, sSetX, wipeD, blk, hk, lk]
  · rw [if_neg h] at lk ⊢
    simp [eVar, eC, e1, e2, aN, aC, eCall, eMk, eTup, lLst, eOfL, eBI, lBI, bV, bC, bNot, bAnd, bOr, bT, eAnd, eOr, eNot, eIf, oN, oS, iSeq', iOf, sFz, sNext, sSeq, sBreak, sCont, sExpr, sRet, sRetN, sSet, sIf, sFor, sUnp, sPar, sSetOwn, sAppend, sSetIx, sFldD, sRaise, bodyD, startD, tst, oInt, eSl, seq_tup, seq_lst, rng2, enum1, zip2, zip3, lenL, tupL, lenD, tupD, NW.intD, listD, i2, addD, subD, mulI, fdivD, modD, ltD, leD, gtD, geD, eqD, neD, isND, notND, isNone, negD, revD, insD, endI, bodyI, frz, Tgt.st, Tgt.sts, bOwn, eOwn, eOwnL, ownAt, Sl.isOwn, isOk, inG, getG, inLO, inGD, sPutG, sSetdG, eLenO, eLenG, ixO, sParX, sParN, xsM, setAll, xVal, xOwn, lRep, lRg, sSetX, wipeD, blk, hk, lk, put_num key inj h, num_len, hz]
theorem blk9 {s0 s1 s2 s3 s5 s6 s7 s8 s10 : Sl} {row : List V} {v : V} (hz : row.length < sizeLine) :
    blk 9 [s0, s1, s2, s3, .own (row.map enc), s5, s6, s7, s8, .val (enc v), s10, .ok (numD enc row 0)] = pure (.nx [s0, s1, s2, s3, .own ((visit row v).map enc), s5, s6, s7, s8, .val (enc v), s10, .ok (numD enc (visit row v) 0)]) := by
  have hk := key v
  have lk := lk_num key inj (v := v) (row := row)
  unfold visit
  by_cases h : v ∈ row
  · rw [if_pos h] at lk ⊢
    simp [eVar, eC, e1, e2, aN, aC, eCall, eMk, eTup, lLst, eOfL, eBI, lBI, bV, bC, bNot, bAnd, bOr, bT, eAnd, eOr, eNot, eIf, oN, oS, iSeq', iOf, sFz, sNext, sSeq, sBreak, sCont, sExpr, sRet, sRetN, sSet, sIf, sFor, sUnp, sPar, sSetOwn, sAppend, sSetIx, sFldD, sRaise, bodyD, startD, tst, oInt, eSl, seq_tup, seq_lst, rng2, enum1, zip2, zip3, lenL, tupL, lenD, tupD, NW.intD, listD, i2, addD, subD, mulI, fdivD, modD, ltD, leD, gtD, geD, eqD, neD, isND, notND, isNone, negD, revD, insD, endI, bodyI, frz, Tgt.st, Tgt.sts, bOwn, eOwn, eOwnL, ownAt, Sl.isOwn, isOk, inG, getG, inLO, inGD, sPutG, sSetdG, eLenO, eLenG, ixO, sParX, sParN, xsM, setAll, xVal, xOwn, lRep, lRg, sSetX, wipeD, blk, hk, lk]
  · rw [if_neg h] at lk ⊢
    simp [eVar, eC, e1, e2, aN, aC, eCall, eMk, eTup, lLst, eOfL, eBI, lBI, bV, bC, bNot, bAnd, bOr, bT, eAnd, eOr, eNot, eIf, oN, oS, iSeq', iOf, sFz, sNext, sSeq, sBreak, sCont, sExpr, sRet, sRetN, sSet, sIf, sFor, sUnp, sPar, sSetOwn, sAppend, sSetIx, sFldD, sRaise, bodyD, startD, tst, oInt, eSl, seq_tup, seq_lst, rng2, enum1, zip2, zip3, lenL, tupL, lenD, tupD, NW.intD, listD, i2, addD, subD, mulI, fdivD, modD, ltD, leD, gtD, geD, eqD, neD, isND, notND, isNone, negD, revD, insD, endI, bodyI, frz, Tgt.st, Tgt.sts, bOwn, eOwn, eOwnL, ownAt, Sl.isOwn, isOk, inG, getG, inLO, inGD, sPutG, sSetdG, eLenO, eLenG, ixO, sParX, sParN, xsM, setAll, xVal, xOwn, lRep, lRg, sSetX, wipeD, blk, hk, lk, put_num key inj h, num_len, hz]
end
/-! ### the texts -/
def xCol (Φ : Nat → Mir) : SW := sSeq (sSet 9 (eCallV (fun _ => false) Φ 2 (aC (eVar 6) (aC (eVar 8) aN)))) (sSeq (blk 9) (sAppend 7 (eOwnL 11 getG (eVar 9))))
def xRow (Φ : Nat → Mir) : SW := sSeq (sParX 6 7 (xVal (eOwnL 4 ixO (eLenO 5))) (xOwn (lLst aN))) (sSeq (sFor (iOf rng1 (aC (e2 shlD (eC (.int 1)) (eVar 0)) aN)) (.nm 8) (xCol Φ)) (sFz 7 (sAppend 5 (eBI tupD (aC (eVar 7) aN)))))
def xEnd (Φ : Nat → Mir) : SW := sSeq (sFz 4 (sSet 10 (eBI tupL (eLc (iSeq' (eVar 4)) (.nm 6) bT (eCallV (fun _ => false) Φ 3 (aC (eVar 6) aN)) [6]))))
    (sFz 5 (sRet (eMk 4 "Lot" mi_Lot (aC (eVar 0) (aC (eBI tupD (aC (eVar 5) aN)) (aC (eVar 10) (aC (eBI tupL (eLc (iSeq' (eVar 1)) (.nm 6) bT (eOwnL 11 getG (eVar 6)) [6])) aN)))))))
theorem t_explored_lots_split (Φ : Nat → Mir) : t_explored_lots Φ = sSeq (sParN [11, 4, 5] [(fun _ => pure (.ok [])), (xOwn (lLst aN)), (xOwn (lLst aN))])
    (sSeq (sFor (iSeq' (eVar 1)) (.nm 6) (blk 6)) (sSeq (whL (bC ltD (eLenO 5) (eLenO 4)) (xRow Φ) 2000) (xEnd Φ))) := rfl
section
variable {V : Type} [DecidableEq V] {enc : V → D} (key : ∀ v, KeyD (enc v)) (inj : ∀ v w, enc v = enc w → v = w) (nof : ∀ v, D.nofn (enc v) = true)
variable {c : Nat} {go : V → Nat → V} {gd : V → Bool} {bs R : List V} {Φ : Nat → Mir} {j j' : Nat} {d : D}
variable (u : Ups c go bs R) (hR : R.length ≤ 1500) (hc : c ≤ 10)
variable (hgo : ∀ v ∈ R, ∀ k, k < 2 ^ c → Φ j [enc v, nD k] = pure (enc (go v k))) (hgd : ∀ v ∈ R, Φ j' [enc v] = pure (.bl (gd v)))
theorem last_run {s0 s1 s2 s3 s4 s6 s8 s9 s10 s11 : Sl} {M L : List D} (h : M.length < sizeLine) : (sFz 7 (sAppend 5 (eBI tupD (aC (eVar 7) aN)))) [s0, s1, s2, s3, s4, .own M, s6, .own L, s8, s9, s10, s11] = pure (.nx [s0, s1, s2, s3, s4, .own (M ++ [.tup L]), s6, .val (.lst L), s8, s9, s10, s11]) := by
  simp [eVar, eC, e1, e2, aN, aC, eCall, eMk, eTup, lLst, eOfL, eBI, lBI, bV, bC, bNot, bAnd, bOr, bT, eAnd, eOr, eNot, eIf, oN, oS, iSeq', iOf, sFz, sNext, sSeq, sBreak, sCont, sExpr, sRet, sRetN, sSet, sIf, sFor, sUnp, sPar, sSetOwn, sAppend, sSetIx, sFldD, sRaise, bodyD, startD, tst, oInt, eSl, seq_tup, seq_lst, rng2, enum1, zip2, zip3, lenL, tupL, lenD, tupD, NW.intD, listD, i2, addD, subD, mulI, fdivD, modD, ltD, leD, gtD, geD, eqD, neD, isND, notND, isNone, negD, revD, insD, endI, bodyI, frz, Tgt.st, Tgt.sts, bOwn, eOwn, eOwnL, ownAt, Sl.isOwn, isOk, inG, getG, inLO, inGD, sPutG, sSetdG, eLenO, eLenG, ixO, sParX, sParN, xsM, setAll, xVal, xOwn, lRep, lRg, sSetX, wipeD, h]
/-- one row of the moves -/
def lineD (go : V → Nat → V) (R : List V) (m : Nat) (v : V) : D := rD ((List.range m).map fun k => ixOf R (go v k))
/-- the slots: what is found, how many rows stand -/
def Ex (c : Nat) (d : D) (j j' : Nat) (enc : V → D) (go : V → Nat → V) (R row : List V) (k : Nat) (ρ : Env') : Prop := ∃ s6 s7 s8 s9, ρ = [.val (nD c), .val d, .val (.fn j), .val (.fn j'), .own (row.map enc), .own ((R.take k).map (lineD go R (2 ^ c))), s6, s7, s8, s9, .no, .ok (numD enc row 0)]
include key inj nof u hR hc hgo hgd
omit key inj nof hgo hgd hc in
theorem row_lt {row : List V} (nd : row.Nodup) (p : ∀ v ∈ row, v ∈ R) : row.length < sizeLine := by
  have := nodup_le nd p
  have : 2000 ≤ sizeLine := szM (by decide)
  omega
theorem begin_run {s6 s7 s8 s9 : Sl} : ∃ ρ', forL (.nm 6) (blk 6) (bs.map enc) [.val (nD c), .val d, .val (.fn j), .val (.fn j'), .own [], .own [], s6, s7, s8, s9, .no, .ok []] = pure (.nx ρ') ∧ Ex c d j j' enc go R (visits [] bs) 0 ρ' := by
  obtain ⟨ρ', h1, h2⟩ := forL_idx enc (fun i ρ => Ex c d j j' enc go R (visits [] (bs.take i)) 0 ρ) bs (t := .nm 6) (tb := blk 6) (ρ := [.val (nD c), .val d, .val (.fn j), .val (.fn j'), .own [], .own [], s6, s7, s8, s9, .no, .ok []]) ⟨s6, s7, s8, s9, rfl⟩ (by
    rintro i v ρ hv ⟨s6, s7, s8, s9, rfl⟩
    have sub : ∀ x ∈ visits [] (bs.take i), x ∈ R := fun x hx => u.bs x (List.take_subset _ _ (mem_dedup.mp hx))
    refine ⟨_, _, rfl, .inl (blk6 key inj (row_lt u hR (dedup_nodup _) sub)), ?_⟩
    rw [take_snoc hv, visits_append]
    exact ⟨_, s7, s8, s9, rfl⟩)
  rw [List.take_length] at h2
  exact ⟨ρ', h1, h2⟩
/-- one column -/
theorem col_run {s5 s10 : Sl} {row : List V} {v : V} {k : Nat} {l : List Nat} {s9 : Sl} (hv : v ∈ R) (hk : k < 2 ^ c) (pre : visit row (go v k) <+: R) (nd : row.Nodup) (hl : l.length ≤ 2000) :
    xCol Φ [.val (nD c), .val d, .val (.fn j), .val (.fn j'), .own (row.map enc), s5, .val (enc v), .own (l.map nD), .val (nD k), s9, s10, .ok (numD enc row 0)] =
      pure (.nx [.val (nD c), .val d, .val (.fn j), .val (.fn j'), .own ((visit row (go v k)).map enc), s5, .val (enc v), .own ((l ++ [ixOf R (go v k)]).map nD), .val (nD k), .val (enc (go v k)), s10, .ok (numD enc (visit row (go v k)) 0)]) := by
  have h1 := hgo v hv k hk
  have nf : D.nofns [enc v, nD k] = true := by simp [D.nofws, D.nofw] at nof ⊢; exact nof v
  have h2 := row_lt u hR nd fun x hx => pre.subset ((visit_pre row (go v k)).subset hx)
  have h3 := blk9 key inj (s0 := .val (nD c)) (s1 := .val d) (s2 := .val (.fn j)) (s3 := .val (.fn j')) (s5 := s5) (s6 := .val (enc v)) (s7 := .own (l.map nD)) (s8 := .val (nD k)) (s10 := s10) (row := row) (v := go v k) h2
  have hk' := key (go v k)
  have lk := lk_num key inj (v := go v k) (row := visit row (go v k))
  rw [if_pos (mem_visit.mpr (.inr rfl)), ← idxOf_pre pre (mem_visit.mpr (.inr rfl))] at lk
  have hl2 : l.length < sizeLine := by have : 3000 ≤ sizeLine := szM (by decide); omega
  simp [eVar, eC, e1, e2, aN, aC, eCall, eMk, eTup, lLst, eOfL, eBI, lBI, bV, bC, bNot, bAnd, bOr, bT, eAnd, eOr, eNot, eIf, oN, oS, iSeq', iOf, sFz, sNext, sSeq, sBreak, sCont, sExpr, sRet, sRetN, sSet, sIf, sFor, sUnp, sPar, sSetOwn, sAppend, sSetIx, sFldD, sRaise, bodyD, startD, tst, oInt, eSl, seq_tup, seq_lst, rng2, enum1, zip2, zip3, lenL, tupL, lenD, tupD, NW.intD, listD, i2, addD, subD, mulI, fdivD, modD, ltD, leD, gtD, geD, eqD, neD, isND, notND, isNone, negD, revD, insD, endI, bodyI, frz, Tgt.st, Tgt.sts, bOwn, eOwn, eOwnL, ownAt, Sl.isOwn, isOk, inG, getG, inLO, inGD, sPutG, sSetdG, eLenO, eLenG, ixO, sParX, sParN, xsM, setAll, xVal, xOwn, lRep, lRg, sSetX, wipeD, xCol, eCallV, nf, h1, h3, hk', lk, hl2]
theorem cols_run {s7 s8 s9 : Sl} {row : List V} {v : V} {k : Nat} (hv : v ∈ R) (pre : visits row (nx go (2 ^ c) v) <+: R) (nd : row.Nodup) :
    ∃ t8 t9, forL (.nm 8) (xCol Φ) ((List.range (2 ^ c)).map nD) [.val (nD c), .val d, .val (.fn j), .val (.fn j'), .own (row.map enc), .own ((R.take k).map (lineD go R (2 ^ c))), .val (enc v), .own [], s8, s9, .no, .ok (numD enc row 0)] =
      pure (.nx [.val (nD c), .val d, .val (.fn j), .val (.fn j'), .own ((visits row (nx go (2 ^ c) v)).map enc), .own ((R.take k).map (lineD go R (2 ^ c))), .val (enc v), .own (((List.range (2 ^ c)).map fun k => ixOf R (go v k)).map nD), t8, t9, .no, .ok (numD enc (visits row (nx go (2 ^ c) v)) 0)]) := by
  have hm : 2 ^ c ≤ 1024 := Nat.pow_le_pow_right (by decide) hc
  obtain ⟨ρ', h1, ⟨t8, t9, h2⟩⟩ := forL_idx nD (fun i ρ => ∃ s8 s9, ρ = [.val (nD c), .val d, .val (.fn j), .val (.fn j'), .own ((visits row ((List.range i).map (go v))).map enc), .own ((R.take k).map (lineD go R (2 ^ c))), .val (enc v), .own (((List.range i).map fun k => ixOf R (go v k)).map nD), s8, s9, .no, .ok (numD enc (visits row ((List.range i).map (go v))) 0)]) (List.range (2 ^ c)) (t := .nm 8) (tb := xCol Φ) (ρ := [.val (nD c), .val d, .val (.fn j), .val (.fn j'), .own (row.map enc), .own ((R.take k).map (lineD go R (2 ^ c))), .val (enc v), .own [], s8, s9, .no, .ok (numD enc row 0)]) ⟨s8, s9, rfl⟩ (by
    rintro i x ρ hx ⟨s8, s9, rfl⟩
    obtain ⟨rfl, hi⟩ := range_at hx
    have p : visit (visits row ((List.range i).map (go v))) (go v i) <+: R := by
      rw [← visits_snoc]
      refine List.IsPrefix.trans ?_ pre
      unfold nx
      obtain ⟨t, e⟩ : ∃ t, List.range (2 ^ c) = List.range (i + 1) ++ t := ⟨(List.range (2 ^ c)).drop (i + 1), by
        have := List.take_append_drop (i + 1) (List.range (2 ^ c))
        rw [List.take_range, Nat.min_eq_left hi] at this
        exact this.symm⟩
      rw [e, List.map_append, visits_append]
      exact visits_pre _ _
    refine ⟨_, _, rfl, .inl (col_run key inj nof u hR hc hgo hgd hv hi p (visits_nodup nd) (by simp; omega)), .val (nD i), .val (enc (go v i)), ?_⟩
    rw [visits_snoc, List.range_succ]
    simp)
  rw [List.length_range] at h2
  subst h2
  exact ⟨t8, t9, h1⟩
theorem row_run {row : List V} {v : V} {k : Nat} {ρ : Env'} (e : Ex c d j j' enc go R row k ρ) (hv : row[k]? = some v) (pre : visits row (nx go (2 ^ c) v) <+: R) (nd : row.Nodup) : ∃ ρ', xRow Φ ρ = pure (.nx ρ') ∧ Ex c d j j' enc go R (visits row (nx go (2 ^ c) v)) (k + 1) ρ' := by
  obtain ⟨s6, s7, s8, s9, rfl⟩ := e
  have hvR : R[k]? = some v := pre_at ((visits_pre _ row).trans pre) hv
  have hkR := (List.getElem?_eq_some_iff.mp hvR).1
  have hm : 2 ^ c ≤ 1024 := Nat.pow_le_pow_right (by decide) hc
  obtain ⟨t8, t9, h1⟩ := cols_run key inj nof u hR hc hgo hgd (d := d) (j := j) (j' := j') (k := k) (s7 := s7) (s8 := s8) (s9 := s9) (List.mem_of_getElem? hvR) pre nd
  have h2 : L2.atI (row.map enc) (k : Int) = some (enc v) := at_enc hv
  have hr := rng_n (n := 2 ^ c) (by omega)
  have hs := shl_c (c := c) (by omega)
  have h3 : min k R.length = k := by omega
  have hz : k < sizeLine := by have : 3000 ≤ sizeLine := szM (by decide); omega
  have e1 : sParX 6 7 (xVal (eOwnL 4 ixO (eLenO 5))) (xOwn (lLst aN)) [.val (nD c), .val d, .val (.fn j), .val (.fn j'), .own (row.map enc), .own ((R.take k).map (lineD go R (2 ^ c))), s6, s7, s8, s9, .no, .ok (numD enc row 0)] = pure (.nx [.val (nD c), .val d, .val (.fn j), .val (.fn j'), .own (row.map enc), .own ((R.take k).map (lineD go R (2 ^ c))), .val (enc v), .own [], s8, s9, .no, .ok (numD enc row 0)]) := by
    simp [eVar, eC, e1, e2, aN, aC, eCall, eMk, eTup, lLst, eOfL, eBI, lBI, bV, bC, bNot, bAnd, bOr, bT, eAnd, eOr, eNot, eIf, oN, oS, iSeq', iOf, sFz, sNext, sSeq, sBreak, sCont, sExpr, sRet, sRetN, sSet, sIf, sFor, sUnp, sPar, sSetOwn, sAppend, sSetIx, sFldD, sRaise, bodyD, startD, tst, oInt, eSl, seq_tup, seq_lst, rng2, enum1, zip2, zip3, lenL, tupL, lenD, tupD, NW.intD, listD, i2, addD, subD, mulI, fdivD, modD, ltD, leD, gtD, geD, eqD, neD, isND, notND, isNone, negD, revD, insD, endI, bodyI, frz, Tgt.st, Tgt.sts, bOwn, eOwn, eOwnL, ownAt, Sl.isOwn, isOk, inG, getG, inLO, inGD, sPutG, sSetdG, eLenO, eLenG, ixO, sParX, sParN, xsM, setAll, xVal, xOwn, lRep, lRg, sSetX, wipeD, h2, h3]
  have e2 : (iOf rng1 (aC (e2 shlD (eC (.int 1)) (eVar 0)) aN)) [.val (nD c), .val d, .val (.fn j), .val (.fn j'), .own (row.map enc), .own ((R.take k).map (lineD go R (2 ^ c))), .val (enc v), .own [], s8, s9, .no, .ok (numD enc row 0)] = pure ((List.range (2 ^ c)).map nD) := by
    simp [eVar, eC, e1, e2, aN, aC, eCall, eMk, eTup, lLst, eOfL, eBI, lBI, bV, bC, bNot, bAnd, bOr, bT, eAnd, eOr, eNot, eIf, oN, oS, iSeq', iOf, sFz, sNext, sSeq, sBreak, sCont, sExpr, sRet, sRetN, sSet, sIf, sFor, sUnp, sPar, sSetOwn, sAppend, sSetIx, sFldD, sRaise, bodyD, startD, tst, oInt, eSl, seq_tup, seq_lst, rng2, enum1, zip2, zip3, lenL, tupL, lenD, tupD, NW.intD, listD, i2, addD, subD, mulI, fdivD, modD, ltD, leD, gtD, geD, eqD, neD, isND, notND, isNone, negD, revD, insD, endI, bodyI, frz, Tgt.st, Tgt.sts, bOwn, eOwn, eOwnL, ownAt, Sl.isOwn, isOk, inG, getG, inLO, inGD, sPutG, sSetdG, eLenO, eLenG, ixO, sParX, sParN, xsM, setAll, xVal, xOwn, lRep, lRg, sSetX, wipeD, hs, hr, -Int.natCast_pow]
  refine ⟨_, by rw [xRow, sSeq_nx e1, sSeq_nx (by rw [sFor_of e2]; exact h1), last_run (by simp; omega)], .val (enc v), .val (.lst (((List.range (2 ^ c)).map fun k => ixOf R (go v k)).map nD)), t8, t9, ?_⟩
  rw [take_snoc hvR, List.map_append]
  rfl
omit key inj nof u hR hc hgo hgd in
theorem cond_run {row : List V} {k : Nat} {ρ : Env'} (e : Ex c d j j' enc go R row k ρ) (hk : k ≤ R.length) : (bC ltD (eLenO 5) (eLenO 4)) ρ = pure (decide (k < row.length)) := by
  obtain ⟨s6, s7, s8, s9, rfl⟩ := e
  have h3 : min k R.length = k := by omega
  simp [eVar, eC, e1, e2, aN, aC, eCall, eMk, eTup, lLst, eOfL, eBI, lBI, bV, bC, bNot, bAnd, bOr, bT, eAnd, eOr, eNot, eIf, oN, oS, iSeq', iOf, sFz, sNext, sSeq, sBreak, sCont, sExpr, sRet, sRetN, sSet, sIf, sFor, sUnp, sPar, sSetOwn, sAppend, sSetIx, sFldD, sRaise, bodyD, startD, tst, oInt, eSl, seq_tup, seq_lst, rng2, enum1, zip2, zip3, lenL, tupL, lenD, tupD, NW.intD, listD, i2, addD, subD, mulI, fdivD, modD, ltD, leD, gtD, geD, eqD, neD, isND, notND, isNone, negD, revD, insD, endI, bodyI, frz, Tgt.st, Tgt.sts, bOwn, eOwn, eOwnL, ownAt, Sl.isOwn, isOk, inG, getG, inLO, inGD, sPutG, sSetdG, eLenO, eLenG, ixO, sParX, sParN, xsM, setAll, xVal, xOwn, lRep, lRg, sSetX, wipeD, h3]
theorem while_run {row : List V} {k : Nat} {R' : List V} (t : Come (nx go (2 ^ c)) row k R') : R' = R → ∀ (n : Nat) (ρ : Env'), R.length < n + k → row.Nodup → Ex c d j j' enc go R row k ρ →
    ∃ ρ', whL (bC ltD (eLenO 5) (eLenO 4)) (xRow Φ) n ρ = pure (.nx ρ') ∧ Ex c d j j' enc go R R R.length ρ' := by
  induction t with
  | @done row =>
    intro e n ρ hn nd ex
    subst e
    obtain ⟨n, rfl⟩ : ∃ m, n = m + 1 := ⟨n - 1, by omega⟩
    have h1 := cond_run ex (Nat.le_refl _)
    rw [decide_eq_false (Nat.lt_irrefl _)] at h1
    exact ⟨ρ, by simp [whL, h1], ex⟩
  | @more row R'' k v h t ih =>
    intro e n ρ hn nd ex
    subst e
    have hk := (List.getElem?_eq_some_iff.mp h).1
    have pre := t.pre
    have hk2 : k < R''.length := Nat.lt_of_lt_of_le hk ((visits_pre _ _).trans pre).length_le
    obtain ⟨n, rfl⟩ : ∃ m, n = m + 1 := ⟨n - 1, by omega⟩
    have h1 := cond_run ex (Nat.le_of_lt hk2)
    rw [decide_eq_true hk] at h1
    obtain ⟨ρ1, h2, h3⟩ := row_run key inj nof u hR hc hgo hgd ex h pre nd
    obtain ⟨ρ2, h4, h5⟩ := ih rfl n ρ1 (by omega) (visits_nodup nd) h3
    exact ⟨ρ2, by simp only [whL, h1, h2, WP.pure_bind, if_true]; exact h4, h5⟩
/-- the end: the Lot -/
theorem end_run {ρ : Env'} (e : Ex c d j j' enc go R R R.length ρ) (hd : seqOf d = pure (bs.map enc)) (ok : (lotOf c go gd bs R).Ok) : xEnd Φ ρ = pure (.rt (oD (lotOf c go gd bs R))) := by
  obtain ⟨s6, s7, s8, s9, rfl⟩ := e
  rw [List.take_length]
  have g1 : lcL (.nm 6) bT (eCallV (fun _ => false) Φ 3 (aC (eVar 6) aN)) [.val (nD c), .val d, .val (.fn j), .val (.fn j'), .val (.lst (R.map enc)), .own (R.map (lineD go R (2 ^ c))), .no, s7, s8, s9, .no, .ok (numD enc R 0)] (R.map enc) = pure (R.map fun v => .bl (gd v)) :=
    lcL_enc enc (fun v => .bl (gd v)) R fun v hv => ⟨_, rfl, by
      have nf : D.nofns [enc v] = true := by simp [D.nofws, D.nofw] at nof ⊢; exact nof v
      simp [eVar, eC, e1, e2, aN, aC, eCall, eMk, eTup, lLst, eOfL, eBI, lBI, bV, bC, bNot, bAnd, bOr, bT, eAnd, eOr, eNot, eIf, oN, oS, iSeq', iOf, sFz, sNext, sSeq, sBreak, sCont, sExpr, sRet, sRetN, sSet, sIf, sFor, sUnp, sPar, sSetOwn, sAppend, sSetIx, sFldD, sRaise, bodyD, startD, tst, oInt, eSl, seq_tup, seq_lst, rng2, enum1, zip2, zip3, lenL, tupL, lenD, tupD, NW.intD, listD, i2, addD, subD, mulI, fdivD, modD, ltD, leD, gtD, geD, eqD, neD, isND, notND, isNone, negD, revD, insD, endI, bodyI, frz, Tgt.st, Tgt.sts, bOwn, eOwn, eOwnL, ownAt, Sl.isOwn, isOk, inG, getG, inLO, inGD, sPutG, sSetdG, eLenO, eLenG, ixO, sParX, sParN, xsM, setAll, xVal, xOwn, lRep, lRg, sSetX, wipeD, eCallV, nf, hgd v hv]⟩
  have g2 : lcL (.nm 6) bT (eOwnL 11 getG (eVar 6)) [.val (nD c), .val d, .val (.fn j), .val (.fn j'), .val (.lst (R.map enc)), .val (.lst (R.map (lineD go R (2 ^ c)))), .no, s7, s8, s9, .val (.tup (R.map fun v => .bl (gd v))), .ok (numD enc R 0)] (bs.map enc) = pure (bs.map fun v => nD (ixOf R v)) :=
    lcL_enc enc (fun v => nD (ixOf R v)) bs fun v hv => ⟨_, rfl, by
      have hk := key v
      have lk := lk_num key inj (v := v) (row := R)
      rw [if_pos (u.bs v hv)] at lk
      simp [eVar, eC, e1, e2, aN, aC, eCall, eMk, eTup, lLst, eOfL, eBI, lBI, bV, bC, bNot, bAnd, bOr, bT, eAnd, eOr, eNot, eIf, oN, oS, iSeq', iOf, sFz, sNext, sSeq, sBreak, sCont, sExpr, sRet, sRetN, sSet, sIf, sFor, sUnp, sPar, sSetOwn, sAppend, sSetIx, sFldD, sRaise, bodyD, startD, tst, oInt, eSl, seq_tup, seq_lst, rng2, enum1, zip2, zip3, lenL, tupL, lenD, tupD, NW.intD, listD, i2, addD, subD, mulI, fdivD, modD, ltD, leD, gtD, geD, eqD, neD, isND, notND, isNone, negD, revD, insD, endI, bodyI, frz, Tgt.st, Tgt.sts, bOwn, eOwn, eOwnL, ownAt, Sl.isOwn, isOk, inG, getG, inLO, inGD, sPutG, sSetdG, eLenO, eLenG, ixO, sParX, sParN, xsM, setAll, xVal, xOwn, lRep, lRg, sSetX, wipeD, hk, lk]⟩
  have mk := mk_ok ok (by show c ≤ 1000; omega) (by simp [lotOf]; omega)
  have m1 : (R.map (lineD go R (2 ^ c))) = (lotOf c go gd bs R).mv.map rD := by
    unfold lotOf lineD
    rw [List.map_map]; rfl
  have m2 : (R.map fun v => D.bl (gd v)) = (lotOf c go gd bs R).gd.map D.bl := by
    unfold lotOf
    rw [List.map_map]; rfl
  have m3 : (bs.map fun v => nD (ixOf R v)) = (lotOf c go gd bs R).bg.map nD := by
    unfold lotOf
    rw [List.map_map]; rfl
  rw [m2] at g1 g2
  rw [m3] at g2
  rw [m1] at g1 g2
  rw [m1]
  have mk' : mi_Lot [nD c, mvD (lotOf c go gd bs R).mv, gdD (lotOf c go gd bs R).gd, rD (lotOf c go gd bs R).bg] = pure (fsL, [nD c, mvD (lotOf c go gd bs R).mv, gdD (lotOf c go gd bs R).gd, rD (lotOf c go gd bs R).bg]) := mk
  have oe : oD (lotOf c go gd bs R) = .ins "Lot" fsL [nD c, mvD (lotOf c go gd bs R).mv, gdD (lotOf c go gd bs R).gd, rD (lotOf c go gd bs R).bg] := rfl
  rw [oe]
  generalize (lotOf c go gd bs R).mv = mv at *
  generalize (lotOf c go gd bs R).gd = gg at *
  generalize (lotOf c go gd bs R).bg = bg at *
  simp [eVar, eC, e1, e2, aN, aC, eCall, eMk, eTup, lLst, eOfL, eBI, lBI, bV, bC, bNot, bAnd, bOr, bT, eAnd, eOr, eNot, eIf, oN, oS, iSeq', iOf, sFz, sNext, sSeq, sBreak, sCont, sExpr, sRet, sRetN, sSet, sIf, sFor, sUnp, sPar, sSetOwn, sAppend, sSetIx, sFldD, sRaise, bodyD, startD, tst, oInt, eSl, seq_tup, seq_lst, rng2, enum1, zip2, zip3, lenL, tupL, lenD, tupD, NW.intD, listD, i2, addD, subD, mulI, fdivD, modD, ltD, leD, gtD, geD, eqD, neD, isND, notND, isNone, negD, revD, insD, endI, bodyI, frz, Tgt.st, Tgt.sts, bOwn, eOwn, eOwnL, ownAt, Sl.isOwn, isOk, inG, getG, inLO, inGD, sPutG, sSetdG, eLenO, eLenG, ixO, sParX, sParN, xsM, setAll, xVal, xOwn, lRep, lRg, sSetX, wipeD, xEnd, eLc, hd, g1, g2, mk', -List.map_map]
/-- explored, read -/
theorem explored_eq (hd : seqOf d = pure (bs.map enc)) (ok : (lotOf c go gd bs R).Ok) : M_explored_lots Φ [nD c, d, .fn j, .fn j'] = pure (oD (lotOf c go gd bs R)) := by
  obtain ⟨ρ1, h1, e1⟩ := begin_run key inj nof u hR hc hgo hgd (d := d) (j := j) (j' := j') (s6 := .no) (s7 := .no) (s8 := .no) (s9 := .no)
  obtain ⟨ρ2, h2, e2⟩ := while_run key inj nof u hR hc hgo hgd u.come rfl 2000 ρ1 (by omega) (dedup_nodup bs) e1
  have h3 := end_run key inj nof u hR hc hgo hgd e2 hd ok
  have h0 : sParN [11, 4, 5] [(fun _ => pure (.ok [])), (xOwn (lLst aN)), (xOwn (lLst aN))] (startD 12 [nD c, d, .fn j, .fn j']) = pure (.nx [.val (nD c), .val d, .val (.fn j), .val (.fn j'), .own [], .own [], .no, .no, .no, .no, .no, .ok []]) := by
    simp [eVar, eC, e1, e2, aN, aC, eCall, eMk, eTup, lLst, eOfL, eBI, lBI, bV, bC, bNot, bAnd, bOr, bT, eAnd, eOr, eNot, eIf, oN, oS, iSeq', iOf, sFz, sNext, sSeq, sBreak, sCont, sExpr, sRet, sRetN, sSet, sIf, sFor, sUnp, sPar, sSetOwn, sAppend, sSetIx, sFldD, sRaise, bodyD, startD, tst, oInt, eSl, seq_tup, seq_lst, rng2, enum1, zip2, zip3, lenL, tupL, lenD, tupD, NW.intD, listD, i2, addD, subD, mulI, fdivD, modD, ltD, leD, gtD, geD, eqD, neD, isND, notND, isNone, negD, revD, insD, endI, bodyI, frz, Tgt.st, Tgt.sts, bOwn, eOwn, eOwnL, ownAt, Sl.isOwn, isOk, inG, getG, inLO, inGD, sPutG, sSetdG, eLenO, eLenG, ixO, sParX, sParN, xsM, setAll, xVal, xOwn, lRep, lRg, sSetX, wipeD]
  unfold M_explored_lots bodyD
  rw [t_explored_lots_split, sSeq_nx h0, sSeq_nx (by rw [sFor_of (xs := bs.map enc) (by simp [eVar, eC, e1, e2, aN, aC, eCall, eMk, eTup, lLst, eOfL, eBI, lBI, bV, bC, bNot, bAnd, bOr, bT, eAnd, eOr, eNot, eIf, oN, oS, iSeq', iOf, sFz, sNext, sSeq, sBreak, sCont, sExpr, sRet, sRetN, sSet, sIf, sFor, sUnp, sPar, sSetOwn, sAppend, sSetIx, sFldD, sRaise, bodyD, startD, tst, oInt, eSl, seq_tup, seq_lst, rng2, enum1, zip2, zip3, lenL, tupL, lenD, tupD, NW.intD, listD, i2, addD, subD, mulI, fdivD, modD, ltD, leD, gtD, geD, eqD, neD, isND, notND, isNone, negD, revD, insD, endI, bodyI, frz, Tgt.st, Tgt.sts, bOwn, eOwn, eOwnL, ownAt, Sl.isOwn, isOk, inG, getG, inLO, inGD, sPutG, sSetdG, eLenO, eLenG, ixO, sParX, sParN, xsM, setAll, xVal, xOwn, lRep, lRg, sSetX, wipeD, hd])]; exact h1), sSeq_nx h2, h3]
  rfl
end
end K24
end
section
set_option Elab.async false
set_option autoImplicit false
set_option linter.all false
set_option maxRecDepth 100000
set_option maxHeartbeats 2000000
/-! k24, the plain law: parted -/
namespace K24
open PySem PySem.Spec PyProof.Rows L2 L2.NW L2.NW.Au
def pLook : EW := e2 addD (eTup (aC (e2 ixD (eVar 6) (eVar 3)) aN)) (eBI tupL (eLc (iSeq' (eVar 4)) (.nm 8) bT (e2 ixD (eVar 6) (eVar 8)) [8]))
def pBody : SW := sSeq (sSet 5 pLook) (sSeq (sSetdG 1 (eVar 5) (eLenG 1)) (sAppend 2 (eOwnL 1 getG (eVar 5))))
def pTurn : SW := sSeq (sParX 1 2 (fun _ => pure (.ok [])) (xOwn (lLst aN))) (sSeq (sFor (iOf enum1 (aC (e1 (fldD csF "moves") (eVar 0)) aN)) (.cons (.nm 3) (.cons (.nm 4) .nil)) pBody)
  (sSeq (sIf (bC eqD (eLenG 1) (eBI lenL (eSrtSet (eVar 6)))) (sRet (eVar 6)) sNext) (sFz 2 (sSet 6 (eVar 2)))))
theorem t_parted_split : t_parted = sSeq (sSet 6 (eOfL (eLc (iSeq' (e1 (fldD csF "good") (eVar 0))) (.nm 7) bT (eBI NW.intD (aC (eVar 7) aN)) [7]))) (whL (bV (eC (.bl true))) pTurn 2000) := rfl
section
variable {A : Lt} (h : A.Ok) (hn : A.mv.length ≤ 63) (hc : A.c ≤ 10)
include h hn hc
theorem look_run {K : List Nat} (hK : K.length = A.mv.length) {s1 s2 s5 s7 s8 : Sl} {i : Nat} (hi : i < A.mv.length) :
    pLook [.val (oD A), s1, s2, .val (nD i), .val (rD (A.row i)), s5, .val (.lst (K.map nD)), s7, s8] = pure (rD (lookOf A K i)) := by
  have hm : 2 ^ A.c ≤ 1024 := Nat.pow_le_pow_right (by decide) hc
  have h1 : ixD (.lst (K.map nD)) (nD i) = pure (nD (kAt K i)) := ix_lst (at_kAt (by omega))
  have h2 : lcL (.nm 8) bT (e2 ixD (eVar 6) (eVar 8)) [.val (oD A), s1, s2, .val (nD i), .val (rD (A.row i)), s5, .val (.lst (K.map nD)), s7, .no] ((A.row i).map nD) = pure ((A.row i).map fun a => nD (kAt K a)) :=
    lcL_enc nD (fun a => nD (kAt K a)) (A.row i) fun a ha => ⟨_, rfl, by
      have := ix_lst (at_kAt (K := K) (i := a) (by rw [hK]; exact h.lt _ (h.row_mem hi) a ha))
      simp [eVar, eC, e1, e2, aN, aC, eCall, eMk, eTup, lLst, eOfL, eBI, lBI, bV, bC, bNot, bAnd, bOr, bT, eAnd, eOr, eNot, eIf, oN, oS, iSeq', iOf, sFz, sNext, sSeq, sBreak, sCont, sExpr, sRet, sRetN, sSet, sIf, sFor, sUnp, sPar, sSetOwn, sAppend, sSetIx, sFldD, sRaise, bodyD, startD, tst, oInt, eSl, seq_tup, seq_lst, rng2, enum1, zip2, zip3, lenL, tupL, lenD, tupD, NW.intD, listD, i2, addD, subD, mulI, fdivD, modD, ltD, leD, gtD, geD, eqD, neD, isND, notND, isNone, negD, revD, insD, endI, bodyI, frz, Tgt.st, Tgt.sts, bOwn, eOwn, eOwnL, ownAt, Sl.isOwn, isOk, inG, getG, inLO, inGD, sPutG, sSetdG, eLenO, eLenG, ixO, sParX, sParN, xsM, setAll, xVal, xOwn, lRep, lRg, sSetX, wipeD, this]⟩
  have hz : 1 + (A.row i).length ≤ sizeLine := by rw [h.row_len hi]; exact szM (by omega)
  have hz' : (A.row i).length + 1 ≤ sizeLine := by omega
  simp [eVar, eC, e1, e2, aN, aC, eCall, eMk, eTup, lLst, eOfL, eBI, lBI, bV, bC, bNot, bAnd, bOr, bT, eAnd, eOr, eNot, eIf, oN, oS, iSeq', iOf, sFz, sNext, sSeq, sBreak, sCont, sExpr, sRet, sRetN, sSet, sIf, sFor, sUnp, sPar, sSetOwn, sAppend, sSetIx, sFldD, sRaise, bodyD, startD, tst, oInt, eSl, seq_tup, seq_lst, rng2, enum1, zip2, zip3, lenL, tupL, lenD, tupD, NW.intD, listD, i2, addD, subD, mulI, fdivD, modD, ltD, leD, gtD, geD, eqD, neD, isND, notND, isNone, negD, revD, insD, endI, bodyI, frz, Tgt.st, Tgt.sts, bOwn, eOwn, eOwnL, ownAt, Sl.isOwn, isOk, inG, getG, inLO, inGD, sPutG, sSetdG, eLenO, eLenG, ixO, sParX, sParN, xsM, setAll, xVal, xOwn, lRep, lRg, sSetX, wipeD, pLook, eLc, h1, h2, sz1, hz, hz', lookOf]
  have e : rD (kAt K i :: (A.row i).map (kAt K)) = .tup (nD (kAt K i) :: (A.row i).map fun a => nD (kAt K a)) := by
    show D.tup _ = D.tup _
    rw [List.map_cons, List.map_map]
    rfl
  rw [e]
omit h hn hc in
theorem body_run {K : List Nat} {rows LK : List (List Nat)} {l : List Nat} {look : List Nat} {s0 s3 s4 s5 s7 s8 : Sl} (hl : pLook [s0, .ok (numD rD rows 0), .own (l.map nD), s3, s4, s5, .val (.lst (K.map nD)), s7, s8] = pure (rD look)) (pre : visit rows look <+: LK) (hz : LK.length ≤ 1000 ∧ l.length ≤ 1000) :
    pBody [s0, .ok (numD rD rows 0), .own (l.map nD), s3, s4, s5, .val (.lst (K.map nD)), s7, s8] = pure (.nx [s0, .ok (numD rD (visit rows look) 0), .own ((l ++ [ixOf LK look]).map nD), s3, s4, .val (rD look), .val (.lst (K.map nD)), s7, s8]) := by
  have hk := key_row look
  have lk := lk_num key_row rD_inj (v := look) (row := rows)
  have lk2 := lk_num key_row rD_inj (v := look) (row := visit rows look)
  rw [if_pos (mem_visit.mpr (.inr rfl)), ← idxOf_pre pre (mem_visit.mpr (.inr rfl))] at lk2
  have z1 : rows.length < sizeLine := by
    have := ((visit_pre rows look).trans pre).length_le
    have : 3000 ≤ sizeLine := szM (by decide)
    omega
  have z2 : l.length < sizeLine := by have : 3000 ≤ sizeLine := szM (by decide); omega
  by_cases hm : look ∈ rows
  · rw [if_pos hm] at lk
    have e : visit rows look = rows := if_pos hm
    rw [e] at lk2 ⊢
    simp [eVar, eC, e1, e2, aN, aC, eCall, eMk, eTup, lLst, eOfL, eBI, lBI, bV, bC, bNot, bAnd, bOr, bT, eAnd, eOr, eNot, eIf, oN, oS, iSeq', iOf, sFz, sNext, sSeq, sBreak, sCont, sExpr, sRet, sRetN, sSet, sIf, sFor, sUnp, sPar, sSetOwn, sAppend, sSetIx, sFldD, sRaise, bodyD, startD, tst, oInt, eSl, seq_tup, seq_lst, rng2, enum1, zip2, zip3, lenL, tupL, lenD, tupD, NW.intD, listD, i2, addD, subD, mulI, fdivD, modD, ltD, leD, gtD, geD, eqD, neD, isND, notND, isNone, negD, revD, insD, endI, bodyI, frz, Tgt.st, Tgt.sts, bOwn, eOwn, eOwnL, ownAt, Sl.isOwn, isOk, inG, getG, inLO, inGD, sPutG, sSetdG, eLenO, eLenG, ixO, sParX, sParN, xsM, setAll, xVal, xOwn, lRep, lRg, sSetX, wipeD, pBody, hl, hk, lk2, num_len, z1, z2]
  · rw [if_neg hm] at lk
    have e : visit rows look = rows ++ [look] := if_neg hm
    rw [e] at lk2 ⊢
    simp [eVar, eC, e1, e2, aN, aC, eCall, eMk, eTup, lLst, eOfL, eBI, lBI, bV, bC, bNot, bAnd, bOr, bT, eAnd, eOr, eNot, eIf, oN, oS, iSeq', iOf, sFz, sNext, sSeq, sBreak, sCont, sExpr, sRet, sRetN, sSet, sIf, sFor, sUnp, sPar, sSetOwn, sAppend, sSetIx, sFldD, sRaise, bodyD, startD, tst, oInt, eSl, seq_tup, seq_lst, rng2, enum1, zip2, zip3, lenL, tupL, lenD, tupD, NW.intD, listD, i2, addD, subD, mulI, fdivD, modD, ltD, leD, gtD, geD, eqD, neD, isND, notND, isNone, negD, revD, insD, endI, bodyI, frz, Tgt.st, Tgt.sts, bOwn, eOwn, eOwnL, ownAt, Sl.isOwn, isOk, inG, getG, inLO, inGD, sPutG, sSetdG, eLenO, eLenG, ixO, sParX, sParN, xsM, setAll, xVal, xOwn, lRep, lRg, sSetX, wipeD, pBody, hl, hk, lk, lk2, num_len, z1, z2, put_num key_row rD_inj hm]
theorem loop_run {K : List Nat} (hK : K.length = A.mv.length) {s3 s4 s5 s7 s8 : Sl} : ∃ t3 t4 t5, forL (.cons (.nm 3) (.cons (.nm 4) .nil)) pBody ((List.range A.mv.length).map fun i => D.tup [nD i, rD (A.row i)]) [.val (oD A), .ok [], .own [], s3, s4, s5, .val (.lst (K.map nD)), s7, s8] =
    pure (.nx [.val (oD A), .ok (numD rD (visits [] (looksOf A K)) 0), .own ((finer A K).map nD), t3, t4, t5, .val (.lst (K.map nD)), s7, s8]) := by
  have full : (visits [] (looksOf A K)).length ≤ 1000 := by
    have := dedup_le (looksOf A K)
    have : (looksOf A K).length = A.mv.length := by simp [looksOf]
    omega
  obtain ⟨ρ', h1, ⟨t3, t4, t5, h2⟩⟩ := forL_idx (fun i => D.tup [nD i, rD (A.row i)]) (fun i ρ => ∃ s3 s4 s5, ρ = [.val (oD A), .ok (numD rD (visits [] ((List.range i).map (lookOf A K))) 0), .own (((List.range i).map fun i => ixOf (visits [] (looksOf A K)) (lookOf A K i)).map nD), s3, s4, s5, .val (.lst (K.map nD)), s7, s8]) (List.range A.mv.length) (t := .cons (.nm 3) (.cons (.nm 4) .nil)) (tb := pBody) (ρ := [.val (oD A), .ok [], .own [], s3, s4, s5, .val (.lst (K.map nD)), s7, s8]) ⟨s3, s4, s5, rfl⟩ (by
    rintro i x ρ hx ⟨s3, s4, s5, rfl⟩
    obtain ⟨rfl, hi⟩ := range_at hx
    have p : visit (visits [] ((List.range i).map (lookOf A K))) (lookOf A K i) <+: visits [] (looksOf A K) := by
      rw [← visits_snoc]
      unfold looksOf
      obtain ⟨t, e⟩ : ∃ t, List.range A.mv.length = List.range (i + 1) ++ t := ⟨(List.range A.mv.length).drop (i + 1), by
        have := List.take_append_drop (i + 1) (List.range A.mv.length)
        rw [List.take_range, Nat.min_eq_left hi] at this
        exact this.symm⟩
      rw [e, List.map_append, visits_append]
      exact visits_pre _ _
    have hl := look_run h hn hc hK (s1 := .ok (numD rD (visits [] ((List.range i).map (lookOf A K))) 0)) (s2 := .own (((List.range i).map fun i => ixOf (visits [] (looksOf A K)) (lookOf A K i)).map nD)) (s5 := s5) (s7 := s7) (s8 := s8) hi
    refine ⟨_, _, rfl, .inl (body_run hl p ⟨full, by simp; omega⟩), .val (nD i), .val (rD (A.row i)), .val (rD (lookOf A K i)), ?_⟩
    rw [visits_snoc, List.range_succ]
    simp)
  rw [List.length_range] at h2
  subst h2
  refine ⟨t3, t4, t5, h1.trans ?_⟩
  have : (List.range A.mv.length).map (fun i => ixOf (visits [] (looksOf A K)) (lookOf A K i)) = finer A K := by
    unfold finer looksOf
    rw [List.map_map]; rfl
  rw [this]
  rfl
theorem turn_run {K : List Nat} (hK : K.length = A.mv.length) {s1 s2 s3 s4 s5 s7 s8 : Sl} : ∃ t1 t2 t3 t4 t5, pTurn [.val (oD A), s1, s2, s3, s4, s5, .val (.lst (K.map nD)), s7, s8] =
    if (visits [] (looksOf A K)).length = (visits [] K).length then pure (.rt (.lst (K.map nD))) else pure (.nx [.val (oD A), t1, t2, t3, t4, t5, .val (.lst ((finer A K).map nD)), s7, s8]) := by
  obtain ⟨t3, t4, t5, h1⟩ := loop_run h hn hc hK (s3 := s3) (s4 := s4) (s5 := s5) (s7 := s7) (s8 := s8)
  have q1 : sParX 1 2 (fun _ => pure (.ok [])) (xOwn (lLst aN)) [.val (oD A), s1, s2, s3, s4, s5, .val (.lst (K.map nD)), s7, s8] = pure (.nx [.val (oD A), .ok [], .own [], s3, s4, s5, .val (.lst (K.map nD)), s7, s8]) := by simp [eVar, eC, e1, e2, aN, aC, eCall, eMk, eTup, lLst, eOfL, eBI, lBI, bV, bC, bNot, bAnd, bOr, bT, eAnd, eOr, eNot, eIf, oN, oS, iSeq', iOf, sFz, sNext, sSeq, sBreak, sCont, sExpr, sRet, sRetN, sSet, sIf, sFor, sUnp, sPar, sSetOwn, sAppend, sSetIx, sFldD, sRaise, bodyD, startD, tst, oInt, eSl, seq_tup, seq_lst, rng2, enum1, zip2, zip3, lenL, tupL, lenD, tupD, NW.intD, listD, i2, addD, subD, mulI, fdivD, modD, ltD, leD, gtD, geD, eqD, neD, isND, notND, isNone, negD, revD, insD, endI, bodyI, frz, Tgt.st, Tgt.sts, bOwn, eOwn, eOwnL, ownAt, Sl.isOwn, isOk, inG, getG, inLO, inGD, sPutG, sSetdG, eLenO, eLenG, ixO, sParX, sParN, xsM, setAll, xVal, xOwn, lRep, lRg, sSetX, wipeD]
  have q2 : (iOf enum1 (aC (e1 (fldD csF "moves") (eVar 0)) aN)) [.val (oD A), .ok [], .own [], s3, s4, s5, .val (.lst (K.map nD)), s7, s8] = pure ((List.range A.mv.length).map fun i => D.tup [nD i, rD (A.row i)]) := by
    simp only [eVar, eC, e1, e2, aN, aC, eCall, eMk, eTup, lLst, eOfL, eBI, lBI, bV, bC, bNot, bAnd, bOr, bT, eAnd, eOr, eNot, eIf, oN, oS, iSeq', iOf, sFz, sNext, sSeq, sBreak, sCont, sExpr, sRet, sRetN, sSet, sIf, sFor, sUnp, sPar, sSetOwn, sAppend, sSetIx, sFldD, sRaise, bodyD, startD, tst, oInt, eSl, seq_tup, seq_lst, rng2, enum1, zip2, zip3, lenL, tupL, lenD, tupD, NW.intD, listD, i2, addD, subD, mulI, fdivD, modD, ltD, leD, gtD, geD, eqD, neD, isND, notND, isNone, negD, revD, insD, endI, bodyI, frz, Tgt.st, Tgt.sts, bOwn, eOwn, eOwnL, ownAt, Sl.isOwn, isOk, inG, getG, inLO, inGD, sPutG, sSetdG, eLenO, eLenG, ixO, sParX, sParN, xsM, setAll, xVal, xOwn, lRep, lRg, sSetX, wipeD, fld_m inF, WP.pure_bind, List.getElem?_cons_zero]
    show pure (enumL (A.mv.map rD)) = _
    rw [Au.enum_rows]
    rfl
  have q3 := len_srt (K := K) (te := eVar 6) (ρ := [.val (oD A), .ok (numD rD (visits [] (looksOf A K)) 0), .own ((finer A K).map nD), t3, t4, t5, .val (.lst (K.map nD)), s7, s8]) (by simp [eVar]) (by omega)
  refine ⟨.ok (numD rD (visits [] (looksOf A K)) 0), .val (.lst ((finer A K).map nD)), t3, t4, t5, ?_⟩
  rw [pTurn, sSeq_nx q1, sSeq_nx (by rw [sFor_of q2]; exact h1)]
  by_cases q : (visits [] (looksOf A K)).length = (visits [] K).length
  · rw [if_pos q]
    have q4 : (bC eqD (eLenG 1) (eBI lenL (eSrtSet (eVar 6)))) [.val (oD A), .ok (numD rD (visits [] (looksOf A K)) 0), .own ((finer A K).map nD), t3, t4, t5, .val (.lst (K.map nD)), s7, s8] = pure true := by
      simp only [bC, e2, eBI, q3, eLenG, WP.pure_bind, List.getElem?_cons_succ, List.getElem?_cons_zero, num_len, eqD, deep_int, deq_nat, and_self, WP.need_true, q, decide_true, tst]
    simp [sSeq, sIf, q4, sRet, eVar]
  · rw [if_neg q]
    have q4 : (bC eqD (eLenG 1) (eBI lenL (eSrtSet (eVar 6)))) [.val (oD A), .ok (numD rD (visits [] (looksOf A K)) 0), .own ((finer A K).map nD), t3, t4, t5, .val (.lst (K.map nD)), s7, s8] = pure false := by
      simp only [bC, e2, eBI, q3, eLenG, WP.pure_bind, List.getElem?_cons_succ, List.getElem?_cons_zero, num_len, eqD, deep_int, deq_nat, and_self, WP.need_true, q, decide_false, tst]
    simp [sSeq, sIf, q4, sRet, eVar, sNext, sFz, frz, sSet]
theorem laps_run {l : Nat} {K R : List Nat} (t : Part A l K R) : K.length = A.mv.length → ∀ (n : Nat), l ≤ n → ∀ {s1 s2 s3 s4 s5 s7 s8 : Sl}, whL (bV (eC (.bl true))) pTurn n [.val (oD A), s1, s2, s3, s4, s5, .val (.lst (K.map nD)), s7, s8] = pure (.rt (.lst (R.map nD))) := by
  induction t with
  | @stop K e =>
    intro hK n hl s1 s2 s3 s4 s5 s7 s8
    obtain ⟨t1, t2, t3, t4, t5, h1⟩ := turn_run h hn hc hK (s1 := s1) (s2 := s2) (s3 := s3) (s4 := s4) (s5 := s5) (s7 := s7) (s8 := s8)
    rw [if_pos e] at h1
    obtain ⟨n, rfl⟩ : ∃ m, n = m + 1 := ⟨n - 1, by omega⟩
    simp [whL, bV, eC, h1]
  | @lap l K R e t ih =>
    intro hK n hl s1 s2 s3 s4 s5 s7 s8
    obtain ⟨t1, t2, t3, t4, t5, h1⟩ := turn_run h hn hc hK (s1 := s1) (s2 := s2) (s3 := s3) (s4 := s4) (s5 := s5) (s7 := s7) (s8 := s8)
    rw [if_neg e] at h1
    obtain ⟨n, rfl⟩ : ∃ m, n = m + 1 := ⟨n - 1, by omega⟩
    simp only [whL, bV, eC, h1, WP.pure_bind, if_true]
    exact ih finer_len n (by omega)
/-- parted, read -/
theorem parted_eq {l : Nat} {R : List Nat} (t : Part A l (goods A) R) (hl : l ≤ 2000) : m_parted [oD A] = pure (.lst (R.map nD)) := by
  have g1 : lcL (.nm 7) bT (eBI NW.intD (aC (eVar 7) aN)) [.val (oD A), .no, .no, .no, .no, .no, .no, .no, .no] (A.gd.map D.bl) = pure (A.gd.map fun b => nD b.toNat) :=
    lcL_enc D.bl (fun b => nD b.toNat) A.gd fun b _ => ⟨_, rfl, by cases b <;> (simp [eVar, eC, e1, e2, aN, aC, eCall, eMk, eTup, lLst, eOfL, eBI, lBI, bV, bC, bNot, bAnd, bOr, bT, eAnd, eOr, eNot, eIf, oN, oS, iSeq', iOf, sFz, sNext, sSeq, sBreak, sCont, sExpr, sRet, sRetN, sSet, sIf, sFor, sUnp, sPar, sSetOwn, sAppend, sSetIx, sFldD, sRaise, bodyD, startD, tst, oInt, eSl, seq_tup, seq_lst, rng2, enum1, zip2, zip3, lenL, tupL, lenD, tupD, NW.intD, listD, i2, addD, subD, mulI, fdivD, modD, ltD, leD, gtD, geD, eqD, neD, isND, notND, isNone, negD, revD, insD, endI, bodyI, frz, Tgt.st, Tgt.sts, bOwn, eOwn, eOwnL, ownAt, Sl.isOwn, isOk, inG, getG, inLO, inGD, sPutG, sSetdG, eLenO, eLenG, ixO, sParX, sParN, xsM, setAll, xVal, xOwn, lRep, lRg, sSetX, wipeD]; rfl)⟩
  have g2 : (A.gd.map fun b => nD b.toNat) = (goods A).map nD := by
    unfold goods
    rw [List.map_map]; rfl
  rw [g2] at g1
  have q1 : sSet 6 (eOfL (eLc (iSeq' (e1 (fldD csF "good") (eVar 0))) (.nm 7) bT (eBI NW.intD (aC (eVar 7) aN)) [7])) (startD 9 [oD A]) = pure (.nx [.val (oD A), .no, .no, .no, .no, .no, .val (.lst ((goods A).map nD)), .no, .no]) := by
    simp [sSet, eOfL, eLc, iSeq', e1, eVar, startD, fld_g inF, seq_tup, wipeD, g1]
  have w := laps_run h hn hc t (by simp [goods, h.gl]) 2000 hl (s1 := .no) (s2 := .no) (s3 := .no) (s4 := .no) (s5 := .no) (s7 := .no) (s8 := .no)
  unfold m_parted bodyD
  rw [t_parted_split, sSeq_nx q1, w]
  rfl
end
end K24
end
section
set_option Elab.async false
set_option autoImplicit false
set_option linter.all false
set_option maxRecDepth 100000
set_option maxHeartbeats 2000000
/-! k24, the plain law: least -/
namespace K24
open PySem PySem.Spec PyProof.Rows L2 L2.NW L2.NW.Au
theorem nof_nat (v : Nat) : D.nofn (nD v) = true := rfl
def fstD (K : List Nat) (i : Nat) : List (D × D) := (visits [] (K.take i)).map fun p => (nD p, nD (ixOf K p))
theorem lk_map {V : Type} [DecidableEq V] {enc : V → D} (key : ∀ v, KeyD (enc v)) (inj : ∀ v w, enc v = enc w → v = w) (f : V → D) (v : V) : ∀ l : List V, lkD (l.map fun p => (enc p, f p)) (enc v) = if v ∈ l then some (f v) else none
  | [] => rfl
  | w :: l => by
    have ih := lk_map key inj f v l
    unfold lkD at ih ⊢
    rw [List.map_cons, List.find?_cons]
    by_cases e : w = v
    · subst e
      simp
    · have h1 : ¬ (enc w).nk = (enc v).nk := fun z => e ((nk_iff key inj).mp z)
      have h2 : ¬ v = w := fun z => e z.symm
      simp only [h1, decide_false]
      rw [ih]
      simp [h2]
theorem lk_fst {K : List Nat} {i p : Nat} : lkD (fstD K i) (nD p) = if p ∈ K.take i then some (nD (ixOf K p)) else none := by
  have := lk_map key_nat nD_inj (fun p => nD (ixOf K p)) p (visits [] (K.take i))
  unfold fstD
  rw [this]
  simp only [mem_dedup]
theorem ix_first {K : List Nat} {i p : Nat} (h : K[i]? = some p) (n : p ∉ K.take i) : ixOf K p = i := by
  have hm : p ∈ K := List.mem_of_getElem? h
  have h1 : K[ixOf K p]? = some p := at_idxOf hm
  have h2 : ¬ ixOf K p < i := fun z => n (List.mem_iff_getElem?.mpr ⟨ixOf K p, by rw [List.getElem?_take_of_lt z]; exact h1⟩)
  have h3 : ixOf K p ≤ i := by
    unfold ixOf
    refine Classical.byContradiction fun z => ?_
    have z : i < K.idxOf p := Nat.lt_of_not_le z
    have := List.not_of_lt_findIdx (p := fun x => x == p) (xs := K) (i := i) z
    obtain ⟨hi, e⟩ := List.getElem?_eq_some_iff.mp h
    simp [e] at this
  omega
theorem put_fst {K : List Nat} {i p : Nat} (h : K[i]? = some p) : (if (lkD (fstD K i) (nD p)).isSome then fstD K i else putD (fstD K i) (nD p) (nD i)) = fstD K (i + 1) := by
  rw [lk_fst]
  by_cases n : p ∈ K.take i
  · rw [if_pos n]
    simp only [Option.isSome_some, if_true]
    unfold fstD
    rw [take_snoc h, visits_append]
    have : visits (visits [] (K.take i)) [p] = visits [] (K.take i) := by
      rw [visits_cons, visits_nil]
      exact if_pos (mem_dedup.mpr n)
    rw [this]
  · rw [if_neg n]
    simp only [Option.isSome_none, Bool.false_eq_true, if_false]
    unfold putD
    rw [lk_fst, if_neg n]
    simp only [Option.isSome_none, Bool.false_eq_true, if_false]
    unfold fstD
    rw [take_snoc h, visits_append]
    have : visits (visits [] (K.take i)) [p] = visits [] (K.take i) ++ [p] := by
      rw [visits_cons, visits_nil]
      exact if_neg fun z => n (mem_dedup.mp z)
    rw [this, List.map_append, List.map_singleton, ix_first h n]
theorem zip_self {α β : Type} : ∀ l : List (α × β), (l.map (·.1)).zip (l.map (·.2)) = l
  | [] => rfl
  | (a, b) :: l => by simp [zip_self l]
theorem ixG_fst {K : List Nat} {p : Nat} (h : p ∈ K) : ixG (.dct ((fstD K K.length).map (·.1)) ((fstD K K.length).map (·.2))) (nD p) = pure (nD (ixOf K p)) := by
  have hk := key_nat p
  have := lk_fst (K := K) (i := K.length) (p := p)
  rw [List.take_length, if_pos h] at this
  simp only [ixG, zip_self, this, WP.need_of hk]
abbrev Φ0 : Nat → Mir := fun _ _ => WP.bad
def lCall1 : SW := sSet 0 (eCallH 4 M_explored_lots (own_least Φ0) Φ0 (aC (e1 (fldD csF "counters") (eVar 0)) (aC (e1 (fldD csF "begins") (eVar 0)) (aC (eC (.fn 1)) (aC (eC (.fn 0)) aN)))))
def lBgs : SW := sSet 3 (eOfL (eLc (iSeq' (e1 (fldD csF "begins") (eVar 0))) (.nm 1) bT (e2 ixD (eVar 5) (eVar 1)) [1]))
def lCall2 : SW := sFz 6 (sRet (eCallH 4 M_explored_lots (own_least Φ0) Φ0 (aC (e1 (fldD csF "counters") (eVar 0)) (aC (eVar 3) (aC (eVar 4) (aC (eC (.fn 3)) aN))))))
theorem t_least_split : t_least Φ0 = sSeq lCall1 (sSeq (sSet 5 (eCall 1 m_parted (aC (eVar 0) aN))) (sSeq (sSetX 6 (fun _ => pure (.ok []))) (sSeq (sFor (iOf enum1 (aC (eVar 5) aN)) (.cons (.nm 1) (.cons (.nm 2) .nil)) (sSetdG 6 (eVar 2) (eVar 1)))
    (sSeq lBgs (sSeq (sFz 6 (sSet 4 (eC (.fn 2)))) lCall2))))) := rfl
section
variable {A : Lt} (h : A.Ok) (hn : A.mv.length ≤ 63) (hc : A.c ≤ 10)
include h hn hc
theorem call1_run {R : List Nat} (u : Ups A.c A.go A.bg R) (b : ∀ v ∈ R, v < A.mv.length) (hR : R.length ≤ 63) (ok : (lotOf A.c A.go A.good A.bg R).Ok) : lCall1 [.val (oD A), .no, .no, .no, .no, .no, .no] = pure (.nx [.val (oD (lotOf A.c A.go A.good A.bg R)), .no, .no, .no, .no, .no, .no]) := by
  have hgo : ∀ v ∈ R, ∀ k, k < 2 ^ A.c → mixM (own_least Φ0) [.val (oD A), .no, .no, .no, .no, .no, .no] Φ0 1 [nD v, nD k] = pure (nD (A.go v k)) := fun v hv k hk => by
    have r1 := ix_row h (b v hv)
    have r2 := ix_go h (b v hv) hk
    have nf := WP.nofnx_pure (nof_nat (A.go v k))
    simp [mixM, own_least, List.lookup_cons, cloE, te_1, startC, capsD, NW.e1, NW.e2, eVar, fld_m inF, r1, r2, nf]
  have hgd : ∀ v ∈ R, mixM (own_least Φ0) [.val (oD A), .no, .no, .no, .no, .no, .no] Φ0 0 [nD v] = pure (.bl (A.good v)) := fun v hv => by
    have r1 := ix_good h (b v hv)
    have nf := WP.nofnx_pure (d := .bl (A.good v)) rfl
    simp [mixM, own_least, List.lookup_cons, cloE, te_0, startC, capsD, NW.e1, NW.e2, eVar, fld_g inF, r1, nf]
  have ex := explored_eq key_nat nD_inj nof_nat u (by omega) hc hgo hgd (d := rD A.bg) rfl ok
  simp [lCall1, sSet, eCallH, aC, aN, eC, NW.e1, eVar, fld_c inF, fld_b inF, ex]
theorem fsts_run {K : List Nat} (hK : K.length = A.mv.length) {s1 s2 s3 s4 : Sl} : ∃ t1 t2, forL (.cons (.nm 1) (.cons (.nm 2) .nil)) (sSetdG 6 (eVar 2) (eVar 1)) ((List.range K.length).map fun i => D.tup [nD i, nD (kAt K i)]) [.val (oD A), s1, s2, s3, s4, .val (.lst (K.map nD)), .ok []] = pure (.nx [.val (oD A), t1, t2, s3, s4, .val (.lst (K.map nD)), .ok (fstD K K.length)]) := by
  obtain ⟨ρ', q1, ⟨t1, t2, q2⟩⟩ := forL_idx (fun i => D.tup [nD i, nD (kAt K i)]) (fun i ρ => ∃ s1 s2, ρ = [.val (oD A), s1, s2, s3, s4, .val (.lst (K.map nD)), .ok (fstD K i)]) (List.range K.length) (t := .cons (.nm 1) (.cons (.nm 2) .nil)) (tb := sSetdG 6 (eVar 2) (eVar 1)) (ρ := [.val (oD A), s1, s2, s3, s4, .val (.lst (K.map nD)), .ok []]) ⟨s1, s2, rfl⟩ (by
    rintro i x ρ hx ⟨s1, s2, rfl⟩
    obtain ⟨rfl, hi⟩ := range_at hx
    have hp := put_fst (at_kAt hi)
    have hk := key_nat (kAt K i)
    have hz : (fstD K i).length < sizeLine := by
      have q1 : (fstD K i).length ≤ (K.take i).length := by unfold fstD; rw [List.length_map]; exact dedup_le _
      have q2 : (K.take i).length ≤ K.length := by simp; omega
      have q3 : 3000 ≤ sizeLine := szM (by decide)
      omega
    exact ⟨_, _, rfl, .inl (by simp [sSetdG, isOk, eVar, hk, hz, hp]; rfl), _, _, rfl⟩)
  rw [List.length_range] at q2
  subst q2
  exact ⟨t1, t2, q1⟩
theorem call2_run {K R : List Nat} (hl : K.length = A.mv.length) (hk : ∀ i j, i < A.mv.length → j < A.mv.length → (kAt K i = kAt K j ↔ A.beh i = A.beh j)) (u : Ups A.c (goP A K) (bgP A K) R) (ok : (lotOf A.c (goP A K) (goodP A K) (bgP A K) R).Ok) {s1 s2 : Sl} :
    lCall2 [.val (oD A), s1, s2, .val (.lst ((bgP A K).map nD)), .val (.fn 2), .val (.lst (K.map nD)), .val (.dct ((fstD K K.length).map (·.1)) ((fstD K K.length).map (·.2)))] = pure (.rt (oD (lotOf A.c (goP A K) (goodP A K) (bgP A K) R))) := by
  have inK : ∀ v ∈ R, v ∈ K := u.come.all (P := fun v => v ∈ K) (fun v hv => bgP_mem h hl hk (mem_dedup.mp hv)) fun v hv w hw => by
    obtain ⟨k, hk', rfl⟩ := List.mem_map.mp hw
    exact goP_mem h hl hk hv (List.mem_range.mp hk')
  have hR : R.length ≤ 1500 := by have := nodup_le u.nd inK; omega
  have hgo : ∀ v ∈ R, ∀ k, k < 2 ^ A.c → mixM (own_least Φ0) [.val (oD A), s1, s2, .val (.lst ((bgP A K).map nD)), .val (.fn 2), .val (.lst (K.map nD)), .val (.dct ((fstD K K.length).map (·.1)) ((fstD K K.length).map (·.2)))] Φ0 2 [nD v, nD k] = pure (nD (goP A K v k)) := fun v hv k hk' => by
    have vi := idx_lt h hl hk (inK v hv)
    have r0 := ixG_fst (inK v hv)
    have r1 := ix_row h vi
    have r2 := ix_go h vi hk'
    have r3 := ix_lst (at_kAt (K := K) (i := A.go (ixOf K v) k) (by rw [hl]; exact h.go_lt vi hk'))
    have nf := WP.nofnx_pure (nof_nat (goP A K v k))
    unfold goP at nf ⊢
    show cloS 5 2 [5, 6, 0] te_2 _ _ = _
    generalize (D.dct ((fstD K K.length).map (·.1)) ((fstD K K.length).map (·.2))) = F at *
    simp [cloS, te_2, startC, capsD, sRet, NW.e1, NW.e2, eVar, fld_m inF, r0, r1, r2, r3, nf]
  have hgd : ∀ v ∈ R, mixM (own_least Φ0) [.val (oD A), s1, s2, .val (.lst ((bgP A K).map nD)), .val (.fn 2), .val (.lst (K.map nD)), .val (.dct ((fstD K K.length).map (·.1)) ((fstD K K.length).map (·.2)))] Φ0 3 [nD v] = pure (.bl (goodP A K v)) := fun v hv => by
    have vi := idx_lt h hl hk (inK v hv)
    have r0 := ixG_fst (inK v hv)
    have r1 := ix_good h vi
    have nf := WP.nofnx_pure (d := .bl (goodP A K v)) rfl
    unfold goodP at nf ⊢
    show cloE 3 1 [6, 0] te_3 _ _ = _
    generalize (D.dct ((fstD K K.length).map (·.1)) ((fstD K K.length).map (·.2))) = F at *
    simp [cloE, te_3, startC, capsD, NW.e1, NW.e2, eVar, fld_g inF, r0, r1, nf]
  have ex := explored_eq key_nat nD_inj nof_nat u hR hc hgo hgd (d := .lst ((bgP A K).map nD)) rfl ok
  simp only [lCall2, sFz, frz, sRet, eCallH, aC, aN, eC, NW.e1, eVar, List.getElem?_cons_succ, List.getElem?_cons_zero, WP.pure_bind, fld_c inF, List.length_cons, List.length_nil, WP.need_true, ex]
/-- least, read: the automaton of all that is read from the begins -/
theorem least_eq : ∃ R, Can A.c (A.bg.map A.beh) R ∧ m_least [oD A] = pure (oD (canLot A.c (A.bg.map A.beh) R)) := by
  obtain ⟨R1, u1, b1, l1⟩ := ups_ex h
  obtain ⟨ok1, bg1⟩ := up_ok h u1 b1
  have c1 := call1_run h hn hc u1 b1 (by omega) ok1
  have e1c : (lotOf A.c A.go A.good A.bg R1).c = A.c := rfl
  have e1n : (lotOf A.c A.go A.good A.bg R1).mv.length = R1.length := by simp [lotOf]
  generalize lotOf A.c A.go A.good A.bg R1 = B at *
  have hnB : B.mv.length ≤ 63 := by omega
  have hcB : B.c ≤ 10 := by omega
  obtain ⟨l, K, hl, t⟩ := part_ex (A := B) B.mv.length (K := goods B) (by simp [goods, ok1.gl]) (by omega)
  obtain ⟨hK, hk⟩ := part_iff ok1 t (goods_parts ok1)
  obtain ⟨R2, u2⟩ := upsP_ex ok1 hK hk
  obtain ⟨R, uR, eR⟩ := canP ok1 hK hk u2
  have p1 := parted_eq ok1 hnB hcB t (by omega)
  obtain ⟨t1, t2, f1⟩ := fsts_run ok1 hnB hcB hK (s1 := .no) (s2 := .no) (s3 := .no) (s4 := .no)
  have g1 : lBgs [.val (oD B), t1, t2, .no, .no, .val (.lst (K.map nD)), .ok (fstD K K.length)] = pure (.nx [.val (oD B), t1, t2, .val (.lst ((bgP B K).map nD)), .no, .val (.lst (K.map nD)), .ok (fstD K K.length)]) := by
    have : lcL (.nm 1) bT (e2 ixD (eVar 5) (eVar 1)) [.val (oD B), .no, t2, .no, .no, .val (.lst (K.map nD)), .ok (fstD K K.length)] (B.bg.map nD) = pure (B.bg.map fun i => nD (kAt K i)) :=
      lcL_enc nD (fun i => nD (kAt K i)) B.bg fun i hi => ⟨_, rfl, by
        have := ix_lst (at_kAt (K := K) (i := i) (by rw [hK]; exact ok1.bl i hi))
        simp [NW.e2, eVar, this]⟩
    have e : (bgP B K).map nD = B.bg.map fun i => nD (kAt K i) := by unfold bgP; rw [List.map_map]; rfl
    rw [e]
    simp [lBgs, sSet, eOfL, eLc, iSeq', NW.e1, eVar, fld_b inF, seq_tup, wipeD, this]
  have ok2 : (lotOf B.c (goP B K) (goodP B K) (bgP B K) R2).Ok := by rw [eR]; exact can_ok ok1 uR
  have c2 := call2_run ok1 hnB hcB hK hk u2 ok2 (s1 := t1) (s2 := t2)
  rw [eR] at c2
  rw [e1c, bg1] at uR c2
  refine ⟨R, uR, ?_⟩
  have s0 : startD 7 [oD A] = [.val (oD A), .no, .no, .no, .no, .no, .no] := rfl
  have w1 : sSet 5 (eCall 1 m_parted (aC (eVar 0) aN)) [.val (oD B), .no, .no, .no, .no, .no, .no] = pure (.nx [.val (oD B), .no, .no, .no, .no, .val (.lst (K.map nD)), .no]) := by
    simp [sSet, eCall, aC, aN, eVar, p1]
  have w2 : sSetX 6 (fun _ => pure (.ok [])) [.val (oD B), .no, .no, .no, .no, .val (.lst (K.map nD)), .no] = pure (.nx [.val (oD B), .no, .no, .no, .no, .val (.lst (K.map nD)), .ok []]) := by
    simp [sSetX]
  have w3 : (iOf enum1 (aC (eVar 5) aN)) [.val (oD B), .no, .no, .no, .no, .val (.lst (K.map nD)), .ok []] = pure ((List.range K.length).map fun i => D.tup [nD i, nD (kAt K i)]) := by
    simp only [iOf, aC, aN, eVar, List.getElem?_cons_succ, List.getElem?_cons_zero, WP.pure_bind, enum1, seq_lst]
    rw [Au.enum_nats]
  have w4 : (sFz 6 (sSet 4 (eC (.fn 2)))) [.val (oD B), t1, t2, .val (.lst ((bgP B K).map nD)), .no, .val (.lst (K.map nD)), .ok (fstD K K.length)] = pure (.nx [.val (oD B), t1, t2, .val (.lst ((bgP B K).map nD)), .val (.fn 2), .val (.lst (K.map nD)), .val (.dct ((fstD K K.length).map (·.1)) ((fstD K K.length).map (·.2)))]) := by
    simp [sFz, frz, sSet, eC]
  have run : bodyD 7 (t_least Φ0) [oD A] = pure (oD (canLot A.c (A.bg.map A.beh) R)) := by
    unfold bodyD
    rw [t_least_split, s0, sSeq_nx c1, sSeq_nx w1, sSeq_nx w2, sSeq_nx (by rw [sFor_of w3]; exact f1), sSeq_nx g1, sSeq_nx w4, c2]
    rfl
  have nf : D.nofws (fun _ => true) [oD A] = true := by
    have h1 : ∀ l : List Nat, D.nofws (fun _ => true) (l.map nD) = true := fun l => by induction l with
      | nil => rfl
      | cons x l ih => simp [D.nofws, D.nofw, ih]
    have h2 : ∀ l : List (List Nat), D.nofws (fun _ => true) (l.map rD) = true := fun l => by induction l with
      | nil => rfl
      | cons x l ih => simp [D.nofws, D.nofw, ih, h1]
    have h3 : ∀ l : List Bool, D.nofws (fun _ => true) (l.map D.bl) = true := fun l => by induction l with
      | nil => rfl
      | cons x l ih => simp [D.nofws, D.nofw, ih]
    simp [oD, D.nofws, D.nofw, h1, h2, h3]
  have nf2 : ∀ B : Lt, (oD B).nofn = true := fun B => by
    have h1 : ∀ l : List Nat, D.nofws (fun _ => true) (l.map nD) = true := fun l => by induction l with
      | nil => rfl
      | cons x l ih => simp [D.nofws, D.nofw, ih]
    have h2 : ∀ l : List (List Nat), D.nofws (fun _ => true) (l.map rD) = true := fun l => by induction l with
      | nil => rfl
      | cons x l ih => simp [D.nofws, D.nofw, ih, h1]
    have h3 : ∀ l : List Bool, D.nofws (fun _ => true) (l.map D.bl) = true := fun l => by induction l with
      | nil => rfl
      | cons x l ih => simp [D.nofws, D.nofw, ih]
    simp [oD, D.nofn, D.nofws, D.nofw, h1, h2, h3]
  unfold m_least bodyM
  rw [run, WP.need_of nf, WP.nofnx_pure (nf2 _)]
end
end K24
end
section
set_option Elab.async false
set_option autoImplicit false
set_option linter.all false
set_option maxRecDepth 100000
set_option maxHeartbeats 2000000
/-! AuN: mirrors that draw. -/
namespace L2.NW.Au
open PySem PySem.Spec PyProof.Rows
/-- goes on, and leaves I -/
abbrev Nx (n : Nat) (I : Env' → Prop) (m : WP Fl) : Prop := Dr n (fun f => ∃ ρ, f = .nx ρ ∧ I ρ) m
theorem dr_sq {t v : SW} {ρ : Env'} {n k : Nat} {I : Env' → Prop} {R : Fl → Prop} (h : Nx n I (t ρ)) (g : ∀ ρ', I ρ' → Dr k R (v ρ')) : Dr (n + k) R (sSeq t v ρ) := by
  refine Dr.bind h fun f hf => ?_
  obtain ⟨ρ', rfl, i⟩ := hf
  exact g ρ' i
theorem dr_sq0 {t v : SW} {ρ ρ' : Env'} {k : Nat} {R : Fl → Prop} (h : t ρ = pure (.nx ρ')) (g : Dr k R (v ρ')) : Dr k R (sSeq t v ρ) := by
  rw [sSeq_nx h]; exact g
theorem dr_body {t : SW} {n k : Nat} {ds : List D} {ρ : Env'} {Z : D → Prop} (s0 : startD k ds = ρ) (h : Dr n (fun f => ∃ d, f = .rt d ∧ Z d) (t ρ)) : Dr n Z (bodyD k t ds) := by
  unfold bodyD
  rw [s0]
  exact Dr.bind (k := 0) h fun f ⟨d, e, z⟩ => by subst e; exact .pure z
theorem nx_set {te : EW} {ρ : Env'} {n i : Nat} {P : D → Prop} {I : Env' → Prop} (h : Dr n P (te ρ)) (g : ∀ d, P d → I (ρ.set i (.val d))) : Nx n I (sSet i te ρ) := by
  have := Dr.bind (k := 0) h fun d hd => Dr.pure (P := fun f : Fl => ∃ ρ, f = .nx ρ ∧ I ρ) ⟨_, rfl, g d hd⟩
  exact this
theorem nx_idx {α : Type} {t : Tgt} {tb : SW} {c : Nat} (enc : α → D) (I : Nat → Env' → Prop) (xs : List α) {ρ : Env'} (h0 : I 0 ρ)
    (h : ∀ i x ρ, xs[i]? = some x → I i ρ → ∃ ρ1, t.st (enc x) ρ = some ρ1 ∧ Nx c (I (i + 1)) (tb ρ1)) : Nx (c * xs.length) (I xs.length) (forL t tb (xs.map enc) ρ) := by
  have go : ∀ (l : List α) (j : Nat) (ρ : Env'), I j ρ → (∀ i x, l[i]? = some x → xs[j + i]? = some x) → Nx (c * l.length) (I (j + l.length)) (forL t tb (l.map enc) ρ) := fun l => by
    induction l with
    | nil => exact fun j ρ hi _ => .pure ⟨ρ, rfl, hi⟩
    | cons x l ih =>
      intro j ρ hi hx
      obtain ⟨ρ1, h1, h2⟩ := h j x ρ (by have := hx 0 x rfl; simpa using this) hi
      have e : forL t tb ((x :: l).map enc) ρ = (tb ρ1 >>= fun f => match f with | .nx ρ2 => forL t tb (l.map enc) ρ2 | .ct ρ2 => forL t tb (l.map enc) ρ2 | .bk ρ2 => pure (.nx ρ2) | .rt d => pure (.rt d)) := by
        simp only [List.map_cons, forL, h1]
        try rfl
      rw [e]
      refine (Dr.bind (k := c * l.length) h2 fun f hf => ?_).mono (by rw [List.length_cons, Nat.mul_succ]; omega) fun _ z => z
      obtain ⟨ρ2, rfl, h3⟩ := hf
      rw [List.length_cons, show j + (l.length + 1) = j + 1 + l.length by omega]
      exact ih (j + 1) ρ2 h3 fun i y hy => by
        have := hx (i + 1) y (by simpa using hy)
        rwa [show j + 1 + i = j + (i + 1) by omega]
  have := go xs 0 ρ h0 fun i x hx => by rw [Nat.zero_add]; exact hx
  rwa [Nat.zero_add] at this
theorem dr_lcE {α β : Type} {t : Tgt} {te : EW} {ρ : Env'} {c : Nat} (enc : α → D) (enc2 : β → D) (P : α → β → Prop) : ∀ (xs : List α), (∀ x ∈ xs, ∃ ρ1, t.st (enc x) ρ = some ρ1 ∧ Dr c (fun d => ∃ y, d = enc2 y ∧ P x y) (te ρ1)) →
    Dr (c * xs.length) (fun l => ∃ ys : List β, l = ys.map enc2 ∧ ys.length = xs.length ∧ ∀ (i : Nat) (x : α) (y : β), xs[i]? = some x → ys[i]? = some y → P x y) (lcL t bT te ρ (xs.map enc))
  | [], _ => .pure ⟨[], rfl, rfl, fun i x y h => by simp at h⟩
  | x :: l, h => by
    obtain ⟨ρ1, h1, h2⟩ := h x (List.mem_cons_self ..)
    have ih := dr_lcE enc enc2 P l fun y hy => h y (List.mem_cons_of_mem _ hy)
    have e : lcL t bT te ρ ((x :: l).map enc) = (WP.noex (te ρ1) >>= fun y => lcL t bT te ρ (l.map enc) >>= fun r => pure (y :: r)) := by
      simp only [List.map_cons, lcL, h1]
      rfl
    rw [e]
    refine (Dr.bind h2.noex fun d hd => Dr.bind ih fun r hr => Dr.pure ?_).mono (by rw [List.length_cons, Nat.mul_succ]; omega) fun _ z => z
    obtain ⟨y, rfl, py⟩ := hd
    obtain ⟨ys, rfl, hl, hp⟩ := hr
    refine ⟨y :: ys, rfl, by simp [hl], fun i a b ha hb => ?_⟩
    cases i with
    | zero => simp at ha hb; subst ha; subst hb; exact py
    | succ i => exact hp i a b (by simpa using ha) (by simpa using hb)
theorem dr_drawN {c : Nat} (h : 0 < c) (h1 : c ≤ 1000000) : Dr 1 (fun d => ∃ a : Nat, d = nD a ∧ a < c) (drawM [.pen, nD c]) := by
  refine (dr_draw (n := (c : Int)) (by omega) (by omega)).imp fun d hd => ?_
  obtain ⟨i, rfl, i0, i1⟩ := hd
  exact ⟨i.toNat, by rw [nD, Int.toNat_of_nonneg i0], by omega⟩
theorem dr_lcTup {ti : AW} {t : Tgt} {tt : BW} {te : EW} {vs : List Nat} {ρ : Env'} {n : Nat} {xs : List D} {P : List D → Prop} (hi : ti ρ = pure xs) (lc : Dr n P (lcL t tt te (wipeD ρ vs) xs)) : Dr n (fun d => ∃ l, P l ∧ d = .tup l) (eBI tupL (eLc ti t tt te vs) ρ) := by
  show Dr n _ (eLc ti t tt te vs ρ >>= tupL)
  unfold eLc
  rw [hi]
  exact Dr.bind (k := 0) lc fun l hl => .pure ⟨l, hl, rfl⟩
end L2.NW.Au
end
section
set_option Elab.async false
set_option autoImplicit false
set_option linter.all false
set_option maxRecDepth 100000
set_option maxHeartbeats 4000000
/-! k24, the plain law: drawn automata -/
namespace K24
open PySem PySem.Spec PyProof.Rows L2 L2.NW L2.NW.Au
theorem dr_pick {α : Type} {enc : α → D} {l : List α} {d : D} (hd : d = .lst (l.map enc) ∨ d = .tup (l.map enc)) (h0 : l ≠ []) (h1 : l.length ≤ 1000) : Dr 1 (fun d => ∃ x ∈ l, d = enc x) (m_law_pick [.pen, d]) := by
  have hl : 0 < l.length := List.length_pos_iff.mpr h0
  have hlen : lenD [d] = pure (nD l.length) := by rcases hd with rfl | rfl <;> simp [lenD]
  have hix : ∀ a : Nat, a < l.length → ∃ x ∈ l, ixD d (nD a) = pure (enc x) := fun a ha => by
    have := at_enc (enc := enc) (List.getElem?_eq_getElem ha)
    rcases hd with rfl | rfl <;> exact ⟨l[a], List.getElem_mem _, by simp only [ixD, this]⟩
  simp [m_law_pick, t_law_pick, bodyD, startD, sRet, NW.e2, eVar, eCall, eBI, aC, aN, hlen]
  refine Dr.bind (k := 0) (dr_drawN (c := l.length) hl (by omega)) fun d' hd' => ?_
  obtain ⟨a, rfl, ha⟩ := hd'
  obtain ⟨x, hx, e⟩ := hix a ha
  rw [e]
  exact .pure ⟨x, hx, rfl⟩
/-! ### a drawn automaton -/
end K24
end
section
set_option Elab.async false
set_option autoImplicit false
set_option linter.all false
set_option maxRecDepth 100000
set_option maxHeartbeats 2000000
/-! AuF: states parted lap by lap, whatever numbers the classes get; loops that may end early. -/
namespace L2.NW.Au
open PySem PySem.Spec PyProof.Rows
/-- K' tells apart just what K tells apart of a state and where it goes -/
structure Lap (A : Lt) (K K' : List Nat) : Prop where
  len : K'.length = A.mv.length
  iff : ∀ i j, i < A.mv.length → j < A.mv.length → (kAt K' i = kAt K' j ↔ lookOf A K i = lookOf A K j)
/-- apart just if they read unlike -/
def Fine (A : Lt) (K : List Nat) : Prop := K.length = A.mv.length ∧ ∀ i j, i < A.mv.length → j < A.mv.length → (kAt K i = kAt K j ↔ A.beh i = A.beh j)
def cls (K : List Nat) : Nat := (visits [] K).length
section
variable {A : Lt} (h : A.Ok) {K K' : List Nat}
include h
theorem Lap.parts (l : Lap A K K') (p : Parts A K) : Parts A K' where
  len := l.len
  same := fun i j hi hj e => (l.iff i j hi hj).mpr (by
    have q := (p.finer h).same i j hi hj e
    exact (finer_iff hi hj).mp q)
  good := fun i j hi hj e => p.good i j hi hj (List.cons.inj ((l.iff i j hi hj).mp e)).1
omit h in
theorem Lap.finer (l : Lap A K K') : ∀ a ∈ List.range A.mv.length, ∀ b ∈ List.range A.mv.length, kAt K' a = kAt K' b → kAt K a = kAt K b := fun a ha b hb e => (List.cons.inj ((l.iff a b (List.mem_range.mp ha) (List.mem_range.mp hb)).mp e)).1
omit h in
theorem cls_map {K : List Nat} (hK : K.length = A.mv.length) : cls K = (visits [] ((List.range A.mv.length).map (kAt K))).length := by unfold cls; rw [← eq_map_kAt hK]
omit h in
theorem Lap.le (l : Lap A K K') (hK : K.length = A.mv.length) : cls K ≤ cls K' := by
  rw [cls_map hK, cls_map l.len]
  exact finer_le l.finer
/-- no more apart: all is told -/
theorem Lap.done (l : Lap A K K') (p : Parts A K) (e : cls K' = cls K) : Fine A K' := by
  refine ⟨l.len, fun i j hi hj => ⟨fun z => ?_, (l.parts h p).same i j hi hj⟩⟩
  have up : ∀ a, a < A.mv.length → ∀ b, b < A.mv.length → kAt K a = kAt K b → kAt K' a = kAt K' b := fun a ha b hb => by
    have := finer_eq (l := List.range A.mv.length) (f := kAt K') (g := kAt K) l.finer (by rw [← cls_map l.len, ← cls_map p.len]; exact Nat.le_of_eq e)
    exact this a (List.mem_range.mpr ha) b (List.mem_range.mpr hb)
  exact beh_eq (R := fun a b => a < A.mv.length ∧ b < A.mv.length ∧ kAt K' a = kAt K' b) (fun a b q => (l.parts h p).good a b q.1 q.2.1 q.2.2)
    (fun a b k q hk => ⟨h.go_lt q.1 hk, h.go_lt q.2.1 hk, up _ (h.go_lt q.1 hk) _ (h.go_lt q.2.1 hk) (look_go h q.1 q.2.1 hk ((l.iff a b q.1 q.2.1).mp q.2.2))⟩) ⟨hi, hj, z⟩
omit h in
theorem cls_pos (h0 : 0 < A.mv.length) (hK : K.length = A.mv.length) : 0 < cls K := by
  unfold cls
  obtain ⟨x, l, rfl⟩ : ∃ x l, K = x :: l := by cases K with
    | nil => simp at hK; omega
    | cons x l => exact ⟨x, l, rfl⟩
  exact List.length_pos_of_mem (mem_dedup.mpr (List.mem_cons_self ..))
end
/-- a loop that may end early: I as long as it goes on, B behind it -/
theorem nx_brkI {α : Type} {t : Tgt} {tb : SW} {c : Nat} (enc : α → D) (I : Nat → Env' → Prop) (B : Env' → Prop) (xs : List α) {ρ : Env'} (h0 : I 0 ρ) (he : ∀ ρ, I xs.length ρ → B ρ)
    (h : ∀ i x ρ, xs[i]? = some x → I i ρ → ∃ ρ1, t.st (enc x) ρ = some ρ1 ∧ Dr c (fun f => ∃ ρ2, ((f = .nx ρ2 ∨ f = .ct ρ2) ∧ I (i + 1) ρ2) ∨ (f = .bk ρ2 ∧ B ρ2)) (tb ρ1)) : Nx (c * xs.length) B (forL t tb (xs.map enc) ρ) := by
  have go : ∀ (l : List α) (j : Nat) (ρ : Env'), I j ρ → j + l.length = xs.length → (∀ i x, l[i]? = some x → xs[j + i]? = some x) → Nx (c * l.length) B (forL t tb (l.map enc) ρ) := fun l => by
    induction l with
    | nil => exact fun j ρ hi e _ => .pure ⟨ρ, rfl, he ρ (by rw [← e]; exact hi)⟩
    | cons x l ih =>
      intro j ρ hi e hx
      obtain ⟨ρ1, h1, h2⟩ := h j x ρ (by have := hx 0 x rfl; simpa using this) hi
      have q : forL t tb ((x :: l).map enc) ρ = (tb ρ1 >>= fun f => match f with | .nx ρ2 => forL t tb (l.map enc) ρ2 | .ct ρ2 => forL t tb (l.map enc) ρ2 | .bk ρ2 => pure (.nx ρ2) | .rt d => pure (.rt d)) := by
        simp only [List.map_cons, forL, h1]
        try rfl
      rw [q]
      refine (Dr.bind (k := c * l.length) h2 fun f hf => ?_).mono (by rw [List.length_cons, Nat.mul_succ]; omega) fun _ z => z
      obtain ⟨ρ2, hf⟩ := hf
      have next : I (j + 1) ρ2 → Nx (c * l.length) B (forL t tb (l.map enc) ρ2) := fun h3 => ih (j + 1) ρ2 h3 (by rw [List.length_cons] at e; omega) fun i y hy => by
        have := hx (i + 1) y (by simpa using hy)
        rwa [show j + 1 + i = j + (i + 1) by omega]
      rcases hf with ⟨rfl | rfl, h3⟩ | ⟨rfl, h3⟩
      · exact next h3
      · exact next h3
      · exact .pure_n ⟨ρ2, rfl, h3⟩
  exact go xs 0 ρ h0 (by simp) fun i x hx => by rw [Nat.zero_add]; exact hx
end L2.NW.Au
end
section
set_option Elab.async false
set_option autoImplicit false
set_option linter.all false
set_option maxRecDepth 100000
set_option maxHeartbeats 2000000
/-! AuG: rows of numbers as words of columns, the least bits first. -/
namespace L2.NW.Au
open PySem PySem.Spec PyProof.Rows
def col (l : List Nat) : Nat := ((List.range l.length).map fun i => kAt l i % 2 * 2 ^ i).sum
def hv (p : Nat) (xs : List Nat) : List Nat := xs.map (· / 2 ^ p)
theorem hv_len (p : Nat) (xs : List Nat) : (hv p xs).length = xs.length := by simp [hv]
theorem hv_zero (xs : List Nat) : hv 0 xs = xs := by simp [hv]
theorem hv_succ (p : Nat) (xs : List Nat) : (hv p xs).map (· / 2) = hv (p + 1) xs := by
  unfold hv
  rw [List.map_map]
  refine List.map_congr_left fun x _ => ?_
  show x / 2 ^ p / 2 = x / 2 ^ (p + 1)
  rw [Nat.div_div_eq_div_mul, Nat.pow_succ]
theorem kAt_hv {xs : List Nat} {p i : Nat} (hi : i < xs.length) : kAt (hv p xs) i = kAt xs i / 2 ^ p := by
  unfold hv kAt
  rw [List.getElem?_map, List.getElem?_eq_getElem hi]
  rfl
theorem sum_snoc (f : Nat → Nat) (n : Nat) : ((List.range (n + 1)).map f).sum = ((List.range n).map f).sum + f n := by
  rw [List.range_succ, List.map_append, List.sum_append]; simp
theorem col_lt_aux (f : Nat → Nat) : ∀ n, ((List.range n).map fun i => f i % 2 * 2 ^ i).sum < 2 ^ n
  | 0 => by simp
  | n + 1 => by
    have ih := col_lt_aux f n
    rw [sum_snoc, Nat.pow_succ]
    have : f n % 2 < 2 := Nat.mod_lt _ (by decide)
    have h2 : f n % 2 * 2 ^ n ≤ 1 * 2 ^ n := Nat.mul_le_mul_right _ (by omega)
    omega
theorem col_lt (l : List Nat) : col l < 2 ^ l.length := col_lt_aux _ _
/-- so many columns -/
def Places (xs : List Nat) (n : Nat) : Prop := (∀ x ∈ hv n xs, x = 0) ∧ ∀ p, p < n → ∃ x ∈ hv p xs, 0 < x
theorem places_ex {xs : List Nat} : ∀ (d p B : Nat), d + p = B → (∀ x ∈ xs, x < 2 ^ B) → (∀ q, q < p → ∃ x ∈ hv q xs, 0 < x) → ∃ n, n ≤ B ∧ Places xs n
  | 0, p, B, e, h, q => by
    refine ⟨B, Nat.le_refl _, fun x hx => ?_, fun r hr => q r (by omega)⟩
    obtain ⟨y, hy, rfl⟩ := List.mem_map.mp hx
    exact Nat.div_eq_of_lt (h y hy)
  | d + 1, p, B, e, h, q => by
    by_cases z : ∀ x ∈ hv p xs, x = 0
    · exact ⟨p, by omega, z, q⟩
    · refine places_ex d (p + 1) B (by omega) h fun r hr => ?_
      by_cases c : r = p
      · subst c
        refine Classical.byContradiction fun n => z fun x hx => ?_
        refine Classical.byContradiction fun m => n ⟨x, hx, by omega⟩
      · exact q r (by omega)
def word (xs : List Nat) (n : Nat) : List Nat := (List.range n).map fun p => col (hv p xs)
theorem word_lt {xs : List Nat} {n c : Nat} (h : xs.length = c) : (word xs n).all (· < 2 ^ c) = true := by
  rw [List.all_eq_true]
  intro x hx
  obtain ⟨p, _, rfl⟩ := List.mem_map.mp hx
  have := col_lt (hv p xs)
  rw [hv_len, h] at this
  exact decide_eq_true this
theorem word_at {xs : List Nat} {n p : Nat} (h : p < n) : (word xs n)[p]? = some (col (hv p xs)) := by
  unfold word
  rw [List.getElem?_map, List.getElem?_range h]; rfl
theorem any_pos (l : List Nat) : (l.any fun x => decide (0 < x)) = true ↔ ∃ x ∈ l, 0 < x := by
  rw [List.any_eq_true]
  exact ⟨fun ⟨x, h1, h2⟩ => ⟨x, h1, of_decide_eq_true h2⟩, fun ⟨x, h1, h2⟩ => ⟨x, h1, decide_eq_true h2⟩⟩
theorem places_any {xs : List Nat} {n p : Nat} (h : Places xs n) (hp : p ≤ n) : ((hv p xs).any fun x => decide (0 < x)) = decide (p < n) := by
  by_cases e : p < n
  · rw [decide_eq_true e, any_pos]; exact h.2 p e
  · have : p = n := by omega
    subst this
    rw [decide_eq_false e, List.any_eq_false]
    intro x hx
    rw [h.1 x hx]
    decide
theorem and_one (x : Nat) : Builtin.bitAnd (x : Int) 1 = ((x % 2 : Nat) : Int) := by
  rw [bitAnd_m1]; omega
theorem shr_n (x k : Nat) : shrD (nD x) (nD k) = pure (nD (x / 2 ^ k)) := by
  have c : (0 : Int) ≤ (k : Int) := by omega
  simp only [shrD, i2, WP.need_of c, Int.toNat_natCast]
  congr 2
theorem and_n (x : Nat) : andD (nD x) (.int 1) = pure (nD (x % 2)) := by
  simp only [andD, i2, WP.need_true, and_one]
theorem fdiv_n {x k : Nat} (h0 : 0 < k) (h1 : k < 1073741824) : fdivD (nD x) (nD k) = pure (nD (x / k)) := by
  have c : CDiv (x : Int) (k : Int) := ⟨by omega, by omega⟩
  simp only [fdivD, i2, WP.need_of c]
  congr 2
theorem mod_n (x : Nat) : modD (nD x) (.int 2) = pure (nD (x % 2)) := by
  have c : (0 : Int) < 2 := by decide
  simp only [modD, i2, WP.need_of c]
  congr 2
theorem mul_n {x y : Nat} (h : x < 2 ^ 60) : mulI (nD x) (nD y) = pure (nD (x * y)) := by
  have c : CMul (x : Int) (y : Int) := .inl ⟨by omega, by omega⟩
  simp only [mulI, i2, WP.need_of c]
  congr 2
theorem add_n (x y : Nat) : addD (nD x) (nD y) = pure (nD (x + y)) := by
  simp only [addD]; congr 2
end L2.NW.Au
end
section
set_option Elab.async false
set_option autoImplicit false
set_option linter.all false
set_option maxRecDepth 100000
set_option maxHeartbeats 4000000
/-! k24, the plain law: what is in, by the package and by the law -/
namespace K24
open PySem PySem.Spec PyProof.Rows L2 L2.NW L2.NW.Au
/-! ### the law's places and columns -/
def lPl : BW := bC neD (eOfL (eLc (iSeq' (eVar 1)) (.nm 3) (bC gtD (eVar 3) (eC (.int 0))) (eC (.int 1)) [3])) (eOfL (lLst aN))
def lHalf : SW := sPar 1 2 (aC (eOfL (eLc (iSeq' (eVar 1)) (.nm 3) bT (e2 fdivD (eVar 3) (eC (.int 2))) [3])) (aC (e2 addD (eVar 2) (eC (.int 1))) aN))
theorem t_places_split : t_law_places = sSeq (sPar 1 2 (aC (eOfL (lBI (fun l => listD l) (aC (eVar 0) aN))) (aC (eC (.int 0)) aN))) (sSeq (whL lPl lHalf 2000) (sRet (eVar 2))) := rfl
theorem ones_ne (l : List Nat) : neD (.lst (l.map fun _ => D.int 1)) (.lst []) = pure (.bl (decide (l ≠ []))) := by
  have d1 : D.deep 64 (.lst (l.map fun _ => D.int 1)) := deep_lst (n := 63) (enc := fun _ : Nat => D.int 1) fun _ _ => deep_int _ _
  have d2 : D.deep 64 (.lst []) := deep_lst (n := 63) (l := ([] : List Nat)) (enc := fun _ : Nat => D.int 1) fun _ h => nomatch h
  unfold neD
  rw [WP.need_of (And.intro d1 d2)]
  cases l with
  | nil => rfl
  | cons x l => rfl
section
variable {xs : List Nat} (hl : xs.length ≤ 1000)
include hl
theorem lPl_run {n p : Nat} (pl : Places xs n) (hp : p ≤ n) {s0 : Sl} {s2 : Sl} : lPl [s0, .val (.lst ((hv p xs).map nD)), s2, .no] = pure (decide (p < n)) := by
  have lc := lcL_encF (t := .nm 3) (tt := bC gtD (eVar 3) (eC (.int 0))) (te := eC (.int 1)) (ρ := [s0, .val (.lst ((hv p xs).map nD)), s2, .no]) nD (fun _ => D.int 1) (fun x => decide (0 < x)) (hv p xs) fun x _ => ⟨_, rfl, by simp [bC, NW.e2, eVar, eC, gtD, i2, tst], fun _ => rfl⟩
  have sz0 : 0 ≤ sizeLine := Nat.zero_le _
  simp only [lPl, bC, NW.e2, eOfL, eLc, iSeq', eVar, List.getElem?_cons_zero, List.getElem?_cons_succ, WP.pure_bind, seq_lst, wipeD, List.set_cons_succ, List.set_cons_zero, lLst, aN, List.length_nil, WP.need_of sz0] at lc ⊢
  simp only [lc, WP.pure_bind, ones_ne, tst]
  congr 1
  have e : decide (List.filter (fun x => decide (0 < x)) (hv p xs) ≠ []) = ((hv p xs).any fun x => decide (0 < x)) := by
    rw [Bool.eq_iff_iff, decide_eq_true_eq, any_pos]
    constructor
    · intro h
      obtain ⟨x, hx⟩ := List.exists_mem_of_ne_nil _ h
      rw [List.mem_filter, decide_eq_true_eq] at hx
      exact ⟨x, hx⟩
    · rintro ⟨x, hx, h0⟩ e
      have : x ∈ List.filter (fun x => decide (0 < x)) (hv p xs) := List.mem_filter.mpr ⟨hx, decide_eq_true h0⟩
      rw [e] at this
      cases this
  rw [e, places_any pl hp]
theorem lHalf_run {p : Nat} {s0 : Sl} : lHalf [s0, .val (.lst ((hv p xs).map nD)), .val (nD p), .no] = pure (.nx [s0, .val (.lst ((hv (p + 1) xs).map nD)), .val (nD (p + 1)), .no]) := by
  have lc := lcL_enc (t := .nm 3) (te := e2 fdivD (eVar 3) (eC (.int 2))) (ρ := [s0, .val (.lst ((hv p xs).map nD)), .val (nD p), .no]) nD (fun x => nD (x / 2)) (hv p xs) fun x _ => ⟨_, rfl, by
    have := fdiv_n (x := x) (k := 2) (by decide) (by decide)
    have e2' : fdivD (nD x) (.int 2) = pure (nD (x / 2)) := this
    simp only [NW.e2, eVar, eC, List.set_cons_succ, List.set_cons_zero, List.getElem?_cons_zero, List.getElem?_cons_succ, WP.pure_bind, e2']
    rfl⟩
  have e : ((hv p xs).map fun x => nD (x / 2)) = (hv (p + 1) xs).map nD := by rw [← hv_succ, List.map_map]; rfl
  rw [e] at lc
  have a := add_n p 1
  have a' : addD (nD p) (.int 1) = pure (nD (p + 1)) := a
  simp only [lHalf, sPar, aC, aN, eOfL, eLc, iSeq', NW.e2, eVar, eC, List.getElem?_cons_zero, List.getElem?_cons_succ, WP.pure_bind, seq_lst, wipeD, List.set_cons_succ, List.set_cons_zero, lc, a']
theorem lPlaces_run {n : Nat} (pl : Places xs n) : ∀ (k : Nat) (m p : Nat) {s0 : Sl}, n - p = k → p ≤ n → k < m → whL lPl lHalf m [s0, .val (.lst ((hv p xs).map nD)), .val (nD p), .no] = pure (.nx [s0, .val (.lst ((hv n xs).map nD)), .val (nD n), .no])
  | 0, m + 1, p, s0, e, hp, hm => by
    have : p = n := by omega
    subst this
    have w := lPl_run hl pl (Nat.le_refl _) (s0 := s0) (s2 := .val (nD p))
    rw [decide_eq_false (Nat.lt_irrefl _)] at w
    simp only [whL, w, WP.pure_bind, Bool.false_eq_true, if_false]
  | k + 1, m + 1, p, s0, e, hp, hm => by
    have w := lPl_run hl pl hp (s0 := s0) (s2 := .val (nD p))
    rw [decide_eq_true (by omega)] at w
    simp only [whL, w, WP.pure_bind, if_true, lHalf_run hl]
    exact lPlaces_run pl k m (p + 1) (by omega) (by omega) (by omega)
theorem places_eq {n : Nat} (pl : Places xs n) (hn : n ≤ 1000) : m_law_places [rD xs] = pure (nD n) := by
  have w1 : sPar 1 2 (aC (eOfL (lBI (fun l => listD l) (aC (eVar 0) aN))) (aC (eC (.int 0)) aN)) (startD 4 [rD xs]) = pure (.nx [.val (rD xs), .val (.lst ((hv 0 xs).map nD)), .val (nD 0), .no]) := by
    rw [hv_zero]
    rfl
  unfold m_law_places bodyD
  rw [t_places_split, sSeq_nx w1, sSeq_nx (lPlaces_run hl pl n 2000 0 (by omega) (Nat.zero_le _) (by omega))]
  rfl
theorem column_eq {p : Nat} (hp : p ≤ 29) (hl2 : xs.length ≤ 50) : m_law_column [rD xs, nD p] = pure (nD (col (hv p xs))) := by
  have s1 : shlD (.int 1) (nD p) = pure (nD (2 ^ p)) := shl_c (by omega)
  have p1 : 2 ^ p < 1073741824 := by
    have := Nat.pow_le_pow_right (n := 2) (by decide) hp
    omega
  obtain ⟨ρ', q1, ⟨t3, q2⟩⟩ := forL_idx (t := .nm 3) (tb := sSet 2 (e2 addD (eVar 2) (e2 mulI (e2 modD (eBI intD (aC (e2 fdivD (e2 ixD (eVar 0) (eVar 3)) (e2 shlD (eC (.int 1)) (eVar 1))) aN)) (eC (.int 2))) (e2 shlD (eC (.int 1)) (eVar 3))))) nD (fun k ρ => ∃ s3, ρ = [.val (rD xs), .val (nD p), .val (nD ((List.range k).map fun i => kAt xs i / 2 ^ p % 2 * 2 ^ i).sum), s3]) (List.range xs.length) (ρ := [.val (rD xs), .val (nD p), .val (nD 0), .no]) ⟨.no, rfl⟩ (by
    rintro k x ρ hx ⟨s3, rfl⟩
    obtain ⟨rfl, hk⟩ := range_at hx
    have r1 : ixD (rD xs) (nD k) = pure (nD (kAt xs k)) := ix_nD (at_kAt hk)
    have s2 : shlD (.int 1) (nD k) = pure (nD (2 ^ k)) := shl_c (by omega)
    have d1 := fdiv_n (x := kAt xs k) (Nat.two_pow_pos p) p1
    have m1 := mod_n (kAt xs k / 2 ^ p)
    have b1 : kAt xs k / 2 ^ p % 2 < 2 ^ 60 := Nat.lt_of_lt_of_le (Nat.mod_lt _ (by decide)) (by decide)
    have u1 := mul_n (x := kAt xs k / 2 ^ p % 2) (y := 2 ^ k) b1
    have a1 := add_n ((List.range k).map fun i => kAt xs i / 2 ^ p % 2 * 2 ^ i).sum (kAt xs k / 2 ^ p % 2 * 2 ^ k)
    have i1 : NW.intD [nD (kAt xs k / 2 ^ p)] = pure (nD (kAt xs k / 2 ^ p)) := rfl
    refine ⟨_, _, rfl, .inl (by
      simp only [sSet, NW.e2, eBI, aC, aN, eVar, eC, List.set_cons_succ, List.set_cons_zero, List.getElem?_cons_zero, List.getElem?_cons_succ, WP.pure_bind, r1, s1, s2, d1, i1, m1, u1, a1]; rfl), .val (nD k), ?_⟩
    rw [sum_snoc])
  rw [List.length_range] at q2
  subst q2
  have hr := rng_n (n := xs.length) (by omega)
  have w2 : (iOf rng1 (aC (eBI lenD (aC (eVar 0) aN)) aN)) [.val (rD xs), .val (nD p), .val (nD 0), .no] = pure ((List.range xs.length).map nD) := by
    simp only [iOf, aC, aN, eBI, eVar, List.getElem?_cons_zero, WP.pure_bind, lenD, List.length_map]
    exact hr
  have e : ((List.range xs.length).map fun i => kAt xs i / 2 ^ p % 2 * 2 ^ i).sum = col (hv p xs) := by
    unfold col
    rw [hv_len]
    congr 1
    exact List.map_congr_left fun i hi => by rw [kAt_hv (List.mem_range.mp hi)]
  unfold m_law_column bodyD
  rw [t_law_column, sSeq_nx (show sSet 2 (eC (.int 0)) (startD 4 [rD xs, nD p]) = pure (.nx [.val (rD xs), .val (nD p), .val (nD 0), .no]) from rfl), sSeq_nx ((sFor_of w2).trans q1)]
  simp only [sRet, eVar, List.getElem?_cons_zero, List.getElem?_cons_succ, WP.pure_bind, e]
end
abbrev cD (loc : Nat) (xs : List Nat) : D := .tup [nD loc, rD xs]
section
variable {A : Lt} (h : A.Ok) {xs : List Nat} (hx : xs.length = A.c) (hc : A.c ≤ 10) {loc n : Nat} (hloc : loc < A.bg.length) (pl : Places xs n) (hn : n ≤ 29)
def isIn (A : Lt) (loc : Nat) (w : List Nat) : Bool := A.good (w.foldl A.go (kAt A.bg loc))
include h hx
theorem led_lt {s : Nat} (hs : s < A.mv.length) (p : Nat) : ((word xs n).take p).foldl A.go s < A.mv.length := by
  have go : ∀ (w : List Nat) (s : Nat), s < A.mv.length → (∀ k ∈ w, k < 2 ^ A.c) → w.foldl A.go s < A.mv.length := fun w => by
    induction w with
    | nil => exact fun s hs _ => hs
    | cons k w ih => exact fun s hs hw => ih _ (h.go_lt hs (hw k (List.mem_cons_self ..))) fun j hj => hw j (List.mem_cons_of_mem _ hj)
  refine go _ s hs fun k hk => ?_
  have := List.all_eq_true.mp (word_lt (n := n) hx) k (List.take_subset _ _ hk)
  exact of_decide_eq_true this
theorem led_all {s : Nat} (hs : s < A.mv.length) : (word xs n).foldl A.go s < A.mv.length := by
  have := led_lt h hx hs (word xs n).length (n := n)
  rwa [List.take_length] at this
include hloc
theorem bg_lt : kAt A.bg loc < A.mv.length := h.bl _ (List.mem_of_getElem? (at_kAt hloc))
/-- as it is read -/
theorem isIn_beh : isIn A loc (word xs n) = A.beh (kAt A.bg loc) (word xs n) := by
  unfold isIn Lt.beh beh
  rw [word_lt hx, Bool.true_and]
include hc pl hn
theorem lis_in_eq : m_law_is_in [lD A, cD loc xs] = pure (.bl (isIn A loc (word xs n))) := by
  have b0 := bg_lt h hx hloc
  have r0 : ixD (rD A.bg) (nD loc) = pure (nD (kAt A.bg loc)) := ix_nD (at_kAt hloc)
  have q0 : ixD (cD loc xs) (.int 0) = pure (nD loc) := rfl
  have q1 : ixD (cD loc xs) (.int 1) = pure (rD xs) := rfl
  have pe := places_eq (by omega) pl (by omega)
  have hr := rng_n (n := n) (by omega)
  have w1 : sSet 2 (e2 ixD (e2 ixD (eVar 0) (eC (.int 3))) (e2 ixD (eVar 1) (eC (.int 0)))) (startD 4 [lD A, cD loc xs]) = pure (.nx [.val (lD A), .val (cD loc xs), .val (nD (kAt A.bg loc)), .no]) := by
    rw [show startD 4 [lD A, cD loc xs] = [.val (lD A), .val (cD loc xs), .no, .no] from rfl]
    simp only [sSet, NW.e2, eVar, eC, List.getElem?_cons_zero, List.getElem?_cons_succ, WP.pure_bind, ix_3, q0, r0, List.set_cons_succ, List.set_cons_zero]
  have w2 : (iOf rng1 (aC (eCall 1 m_law_places (aC (e2 ixD (eVar 1) (eC (.int 1))) aN)) aN)) [.val (lD A), .val (cD loc xs), .val (nD (kAt A.bg loc)), .no] = pure ((List.range n).map nD) := by
    simp only [iOf, aC, aN, eCall, NW.e2, eVar, eC, List.getElem?_cons_zero, List.getElem?_cons_succ, WP.pure_bind, q1, List.length_cons, List.length_nil, WP.need_true, pe, hr]
  obtain ⟨ρ', g1, ⟨t3, g2⟩⟩ := forL_idx (t := .nm 3) (tb := sSet 2 (e2 ixD (e2 ixD (e2 ixD (eVar 0) (eC (.int 1))) (eVar 2)) (eCall 2 m_law_column (aC (e2 ixD (eVar 1) (eC (.int 1))) (aC (eVar 3) aN))))) nD (fun p ρ => ∃ s3, ρ = [.val (lD A), .val (cD loc xs), .val (nD (((word xs n).take p).foldl A.go (kAt A.bg loc))), s3]) (List.range n) (ρ := [.val (lD A), .val (cD loc xs), .val (nD (kAt A.bg loc)), .no]) ⟨.no, rfl⟩ (by
    rintro p x ρ hx' ⟨s3, rfl⟩
    obtain ⟨rfl, hp⟩ := range_at hx'
    have ce := column_eq (xs := xs) (by omega) (p := p) (by omega) (by omega)
    have sl := led_lt h hx b0 p (n := n)
    have cl : col (hv p xs) < 2 ^ A.c := by have := col_lt (hv p xs); rwa [hv_len, hx] at this
    have r1 := ix_row h sl
    have r2 := ix_go h sl cl
    refine ⟨_, _, rfl, .inl (by
      simp only [sSet, NW.e2, eCall, aC, aN, eVar, eC, List.getElem?_cons_zero, List.getElem?_cons_succ, WP.pure_bind, List.set_cons_succ, List.set_cons_zero, ix_1, r1, q1, List.length_cons, List.length_nil, WP.need_true, ce, r2]; rfl), .val (nD p), ?_⟩
    rw [take_snoc (word_at hp), List.foldl_append]
    rfl)
  rw [List.length_range] at g2
  rw [List.take_of_length_le (by simp [word])] at g2
  subst g2
  have ig := ix_good h (led_all h hx b0 (n := n))
  unfold m_law_is_in bodyD
  rw [t_law_is_in, sSeq_nx w1, sSeq_nx ((sFor_of w2).trans g1)]
  simp only [sRet, NW.e2, eVar, eC, List.getElem?_cons_zero, List.getElem?_cons_succ, WP.pure_bind, ix_2, ig]
  rfl
end
end K24
end
section
set_option Elab.async false
set_option autoImplicit false
set_option linter.all false
set_option maxRecDepth 100000
set_option maxHeartbeats 2000000
/-! AuH: rows whose read numbers alone are looked at; the automaton that is spread so. -/
namespace L2.NW.Au
/-- the column that is seen -/
def sn (rs : List Nat) (k : Nat) : Nat := ((List.range rs.length).map fun i => k / 2 ^ kAt rs i % 2 * 2 ^ i).sum
/-! ### the automaton -/
section
variable {A : Lt} (h : A.Ok) {c' : Nat} {rs : List Nat} (hl : rs.length = A.c)
include h
include hl
end
end L2.NW.Au
end
section
set_option Elab.async false
set_option autoImplicit false
set_option linter.all false
set_option maxRecDepth 100000
set_option maxHeartbeats 2000000
/-! AuI: automata of weighted sums, exact or at most; the least one is small. -/
namespace L2.NW.Au
def sS : List Int → Nat → Int
  | [], _ => 0
  | w :: ws, k => w * ((k % 2 : Nat) : Int) + sS ws (k / 2)
theorem sS_snoc (w : Int) : ∀ (l : List Int) (k : Nat), sS (l ++ [w]) k = sS l k + w * ((k / 2 ^ l.length % 2 : Nat) : Int)
  | [], k => by simp [sS]
  | x :: l, k => by
    have ih := sS_snoc w l (k / 2)
    rw [List.cons_append, sS, ih, sS, List.length_cons, Nat.pow_succ, Nat.mul_comm (2 ^ l.length) 2, ← Nat.div_div_eq_div_mul, Int.add_assoc]
def pS : List Int → Int
  | [] => 0
  | w :: ws => (if 0 ≤ w then w else 0) + pS ws
def nS : List Int → Int
  | [] => 0
  | w :: ws => (if 0 ≤ w then 0 else -w) + nS ws
theorem sS_zero : ∀ ws : List Int, sS ws 0 = 0
  | [] => rfl
  | w :: ws => by
    have := sS_zero ws
    simp [sS, this]
theorem sS_in : ∀ (ws : List Int) (k : Nat), -nS ws ≤ sS ws k ∧ sS ws k ≤ pS ws
  | [], _ => ⟨by simp [sS, nS], by simp [sS, pS]⟩
  | w :: ws, k => by
    obtain ⟨a, b⟩ := sS_in ws (k / 2)
    have h : k % 2 = 0 ∨ k % 2 = 1 := by omega
    simp only [sS, nS, pS]
    rcases h with h | h <;> rw [h] <;> split <;> constructor <;> simp <;> omega
def goS (ws : List Int) (ex : Bool) (v : Option Int) (k : Nat) : Option Int := match v with
  | none => none
  | some i => if (ex && decide ((i - sS ws k) % 2 = 1)) = true then none else some ((i - sS ws k) / 2)
def gdS (ex : Bool) : Option Int → Bool
  | none => false
  | some i => if ex then decide (i = 0) else decide (0 ≤ i)
theorem gdS_zero (ws : List Int) (ex : Bool) (v : Option Int) : gdS ex v = gdS ex (goS ws ex v 0) := by
  cases v with
  | none => rfl
  | some i =>
    unfold goS
    rw [sS_zero]
    cases ex with
    | false =>
      simp only [Bool.false_and, Bool.false_eq_true, if_false, gdS]
      by_cases h : 0 ≤ i
      · rw [decide_eq_true h, decide_eq_true (by omega)]
      · rw [decide_eq_false h, decide_eq_false (by omega)]
    | true =>
      simp only [Bool.true_and, decide_eq_true_eq]
      split
      · simp only [gdS, if_true]
        rw [decide_eq_false (by omega)]
      · simp only [gdS, if_true]
        by_cases h : i = 0
        · rw [decide_eq_true h, decide_eq_true (by omega)]
        · rw [decide_eq_false h, decide_eq_false (by omega)]
def iv (lo : Int) (n : Nat) : List (Option Int) := (List.range n).map fun i : Nat => some (lo + (i : Int))
theorem mem_iv {lo i : Int} {n : Nat} : some i ∈ iv lo n ↔ lo ≤ i ∧ i < lo + n := by
  unfold iv
  rw [List.mem_map]
  constructor
  · rintro ⟨j, hj, e⟩
    have hj := List.mem_range.mp hj
    have := Option.some.inj e
    omega
  · rintro ⟨h1, h2⟩
    exact ⟨(i - lo).toNat, List.mem_range.mpr (by omega), by congr 1; omega⟩
theorem none_iv {lo : Int} {n : Nat} : none ∉ iv lo n := fun h => by
  obtain ⟨j, _, e⟩ := List.mem_map.mp h
  cases e
/-- values that are come to -/
def UV (ex : Bool) (lo : Int) (n : Nat) : List (Option Int) := if ex then none :: iv lo n else iv lo n
theorem mem_UV {ex : Bool} {lo i : Int} {n : Nat} : some i ∈ UV ex lo n ↔ lo ≤ i ∧ i < lo + n := by
  unfold UV
  split
  · rw [List.mem_cons, mem_iv]
    exact ⟨fun h => h.resolve_left (fun e => by cases e), .inr⟩
  · exact mem_iv
theorem UV_len {ex : Bool} {lo : Int} {n : Nat} : (UV ex lo n).length ≤ n + 1 := by
  unfold UV iv
  split <;> simp
theorem UV_shut {ws : List Int} {ex : Bool} {lo : Int} {n : Nat} (h1 : lo ≤ (if ex then 1 else 0) - pS ws) (h2 : nS ws < lo + n) : ∀ v ∈ UV ex lo n, ∀ k, goS ws ex v k ∈ UV ex lo n := fun v hv k => by
  obtain ⟨a, b⟩ := sS_in ws k
  cases v with
  | none =>
    cases ex with
    | false => exact absurd hv none_iv
    | true => exact List.mem_cons_self ..
  | some i =>
    have hi := mem_UV.mp hv
    unfold goS
    cases ex with
    | false =>
      simp only [Bool.false_and, Bool.false_eq_true, if_false] at h1 ⊢
      rw [mem_UV]
      omega
    | true =>
      simp only [Bool.true_and, decide_eq_true_eq, if_true] at h1 ⊢
      split
      · exact List.mem_cons_self ..
      · rw [mem_UV]
        omega
section
variable {V : Type} [DecidableEq V] {c : Nat} {go : V → Nat → V} {gd : V → Bool} {bs : List V}
/-- what comes up stays within -/
theorem ups_within (U : List V) (hb : ∀ v ∈ bs, v ∈ U) (sh : ∀ v ∈ U, ∀ k, go v k ∈ U) : ∃ R, Ups c go bs R ∧ (∀ v ∈ R, v ∈ U) ∧ R.length ≤ U.length := by
  have sub : ∀ v ∈ U, ∀ w ∈ nx go (2 ^ c) v, w ∈ U := fun v hv w hw => by
    obtain ⟨k, _, rfl⟩ := List.mem_map.mp hw
    exact sh v hv k
  have z : ∀ v ∈ visits [] bs, v ∈ U := fun v hv => hb v (mem_dedup.mp hv)
  obtain ⟨R, t⟩ := come_ex (nx := nx go (2 ^ c)) U sub U.length (row := visits [] bs) (k := 0) (dedup_nodup _) z (Nat.zero_le _) (by omega)
  have all := t.all z sub
  exact ⟨R, ups_of t, all, nodup_le (ups_of t).nd all⟩
theorem lotOf_bg {R : List V} (u : Ups c go bs R) : (lotOf c go gd bs R).bg.map (lotOf c go gd bs R).beh = bs.map (beh go gd (2 ^ c)) := by
  show (bs.map (ixOf R)).map _ = _
  rw [List.map_map]
  exact List.map_congr_left fun v hv => lotOf_beh u (at_idxOf (u.bs v hv))
end
end L2.NW.Au
end
section
set_option Elab.async false
set_option autoImplicit false
set_option linter.all false
set_option maxRecDepth 100000
set_option maxHeartbeats 2000000
/-! AuL: automata of weights (is, is at most, is like modulo a number): what they have in, few states. -/
namespace L2.NW.Au
def dot : List Int → List Nat → Int
  | w :: ws, x :: xs => w * (x : Int) + dot ws xs
  | _, _ => 0
theorem col_cons (x : Nat) (xs : List Nat) : col (x :: xs) = x % 2 + 2 * col xs := by
  unfold col
  rw [List.length_cons, List.range_succ_eq_map, List.map_cons, List.sum_cons, List.map_map]
  have h : (List.range xs.length).map ((fun i => kAt (x :: xs) i % 2 * 2 ^ i) ∘ Nat.succ) = (List.range xs.length).map fun i => 2 * (kAt xs i % 2 * 2 ^ i) := List.map_congr_left fun i _ => by
    show kAt (x :: xs) (i + 1) % 2 * 2 ^ (i + 1) = _
    rw [show kAt (x :: xs) (i + 1) = kAt xs i from rfl, Nat.pow_succ, ← Nat.mul_assoc, Nat.mul_comm]
  rw [h]
  have d : ∀ l : List Nat, (l.map fun i => 2 * (kAt xs i % 2 * 2 ^ i)).sum = 2 * (l.map fun i => kAt xs i % 2 * 2 ^ i).sum := fun l => by
    induction l with
    | nil => rfl
    | cons a l ih => simp only [List.map_cons, List.sum_cons, ih, Nat.mul_add]
  rw [d]
  show kAt (x :: xs) 0 % 2 * 2 ^ 0 + _ = _
  rw [show kAt (x :: xs) 0 = x from rfl, Nat.pow_zero, Nat.mul_one]
theorem dot_half : ∀ (ws : List Int) (xs : List Nat), dot ws xs = sS ws (col xs) + 2 * dot ws (xs.map (· / 2))
  | [], xs => by cases xs <;> rfl
  | w :: ws, [] => by
    have : sS (w :: ws) (col []) = 0 := sS_zero _
    rw [this]; rfl
  | w :: ws, x :: xs => by
    have ih := dot_half ws xs
    have c1 : col (x :: xs) % 2 = x % 2 := by rw [col_cons]; omega
    have c2 : col (x :: xs) / 2 = col xs := by rw [col_cons]; omega
    rw [dot, ih, sS, c1, c2, List.map_cons, dot]
    have e : (x : Int) = ((x % 2 : Nat) : Int) + 2 * ((x / 2 : Nat) : Int) := by omega
    have e2 : w * (x : Int) = w * ((x % 2 : Nat) : Int) + 2 * (w * ((x / 2 : Nat) : Int)) := by
      conv => lhs; rw [e]
      rw [Int.mul_add, ← Int.mul_assoc, Int.mul_comm w 2, Int.mul_assoc]
    omega
theorem dot_none : ∀ (ws : List Int) (xs : List Nat), (∀ x ∈ xs, x = 0) → dot ws xs = 0
  | [], xs, _ => by cases xs <;> rfl
  | w :: ws, [], _ => rfl
  | w :: ws, x :: xs, h => by
    rw [dot, h x (List.mem_cons_self ..), dot_none ws xs fun y hy => h y (List.mem_cons_of_mem _ hy)]
    simp
theorem hv_one (p : Nat) (xs : List Nat) : hv (p + 1) xs = hv p (xs.map (· / 2)) := by
  unfold hv
  rw [List.map_map]
  refine List.map_congr_left fun x _ => ?_
  show x / 2 ^ (p + 1) = x / 2 / 2 ^ p
  rw [Nat.div_div_eq_div_mul, Nat.pow_succ, Nat.mul_comm]
theorem word_cons (xs : List Nat) (n : Nat) : word xs (n + 1) = col xs :: word (xs.map (· / 2)) n := by
  unfold word
  rw [List.range_succ_eq_map, List.map_cons, List.map_map, hv_zero]
  congr 1
  refine List.map_congr_left fun p _ => ?_
  show col (hv (p + 1) xs) = _
  rw [hv_one]
/-- a reading's meaning goes with each column -/
theorem fold_means {V : Type} {go : V → Nat → V} {gd : V → Bool} {ws : List Int} (In : V → Prop) (M : V → Int → Bool) (h0 : ∀ v, In v → gd v = M v 0) (h1 : ∀ v k, In v → In (go v k)) (h2 : ∀ v k d, In v → M (go v k) d = M v (sS ws k + 2 * d)) :
    ∀ (n : Nat) (xs : List Nat) (v : V), In v → (∀ x ∈ hv n xs, x = 0) → gd ((word xs n).foldl go v) = M v (dot ws xs)
  | 0, xs, v, i, z => by
    rw [hv_zero] at z
    rw [dot_none ws xs z]
    exact h0 v i
  | n + 1, xs, v, i, z => by
    rw [word_cons, List.foldl_cons, fold_means In M h0 h1 h2 n (xs.map (· / 2)) (go v (col xs)) (h1 v _ i) (by rw [← hv_one]; exact z), h2 v _ _ i, ← dot_half]
/-! ### is, is at most -/
def meanS (ex : Bool) : Option Int → Int → Bool
  | none, _ => false
  | some i, d => if ex then decide (i = d) else decide (d ≤ i)
theorem meanS_step (ws : List Int) (ex : Bool) (v : Option Int) (k : Nat) (d : Int) : meanS ex (goS ws ex v k) d = meanS ex v (sS ws k + 2 * d) := by
  cases v with
  | none => rfl
  | some i =>
    unfold goS
    cases ex with
    | false =>
      simp only [Bool.false_and, Bool.false_eq_true, if_false, meanS]
      exact decide_eq_decide.mpr (by omega)
    | true =>
      simp only [Bool.true_and, decide_eq_true_eq]
      split
      · simp only [meanS, if_true]
        exact (decide_eq_false (by omega)).symm
      · simp only [meanS, if_true]
        exact decide_eq_decide.mpr (by omega)
theorem meanS_zero (ex : Bool) (v : Option Int) : gdS ex v = meanS ex v 0 := by cases v <;> rfl
theorem S_means {ws : List Int} {ex : Bool} {n : Nat} {xs : List Nat} {v : Option Int} (z : ∀ x ∈ hv n xs, x = 0) : gdS ex ((word xs n).foldl (goS ws ex) v) = meanS ex v (dot ws xs) :=
  fold_means (fun _ => True) (meanS ex) (fun v _ => meanS_zero ex v) (fun _ _ _ => trivial) (fun v k d _ => meanS_step ws ex v k d) n xs v trivial z
theorem five_in : ∀ (ws : List Int), (∀ w ∈ ws, -5 ≤ w ∧ w ≤ 5) → pS ws ≤ 5 * (ws.length : Int) ∧ nS ws ≤ 5 * (ws.length : Int)
  | [], _ => ⟨by decide, by decide⟩
  | w :: ws, h => by
    obtain ⟨a, b⟩ := five_in ws fun x hx => h x (List.mem_cons_of_mem _ hx)
    have := h w (List.mem_cons_self ..)
    simp only [pS, nS, List.length_cons]
    split <;> constructor <;> omega
/-- the values that are come to -/
abbrev US (ex : Bool) : List (Option Int) := UV ex (-15) 37
theorem US_shut {ws : List Int} (hl : ws.length ≤ 3) (hw : ∀ w ∈ ws, -5 ≤ w ∧ w ≤ 5) (ex : Bool) : ∀ v ∈ US ex, ∀ k, goS ws ex v k ∈ US ex := by
  obtain ⟨a, b⟩ := five_in ws hw
  refine UV_shut ?_ ?_
  · split <;> omega
  · omega
theorem US_len (ex : Bool) : (US ex).length ≤ 63 := Nat.le_trans UV_len (by decide)
/-! ### is like, modulo a number -/
abbrev ML := Option (Int × Int)
def goL (ws : List Int) : ML → Nat → ML
  | none, _ => none
  | some (n, l), k => if n % 2 = 1 then some (n, ((l - sS ws k) * ((n + 1) / 2)) % n) else if (l - sS ws k) % 2 = 1 then none else some (n / 2, ((l - sS ws k) / 2) % (n / 2))
theorem goL_some (ws : List Int) (n l : Int) (k : Nat) : goL ws (some (n, l)) k = if n % 2 = 1 then some (n, ((l - sS ws k) * ((n + 1) / 2)) % n) else if (l - sS ws k) % 2 = 1 then none else some (n / 2, ((l - sS ws k) / 2) % (n / 2)) := rfl
def gdL : ML → Bool
  | none => false
  | some (_, l) => decide (l = 0)
def InL : ML → Prop
  | none => True
  | some (n, l) => 0 ≤ l ∧ l < n
def meanL : ML → Int → Bool
  | none, _ => false
  | some (n, l), d => decide ((l - d) % n = 0)
theorem mod_sub (x d n : Int) : (x % n - d) % n = (x - d) % n := by
  rw [Int.sub_emod, Int.emod_emod_of_dvd x (Int.dvd_refl n), ← Int.sub_emod]
theorem half_odd {n x d : Int} (hn : n % 2 = 1) : (x * ((n + 1) / 2) - d) % n = 0 ↔ (x - 2 * d) % n = 0 := by
  obtain ⟨h, e⟩ : ∃ h, n + 1 = 2 * h := ⟨(n + 1) / 2, by omega⟩
  have e2 : (n + 1) / 2 = h := by omega
  rw [e2, ← Int.dvd_iff_emod_eq_zero, ← Int.dvd_iff_emod_eq_zero]
  constructor
  · rintro ⟨q, hq⟩
    refine ⟨2 * q - x, ?_⟩
    have : x * (2 * h) = 2 * (x * h) := by rw [← Int.mul_assoc, Int.mul_comm x 2, Int.mul_assoc]
    rw [← e, Int.mul_add, Int.mul_one] at this
    rw [Int.mul_sub, Int.mul_comm n x, Int.mul_comm n (2 * q), Int.mul_assoc, Int.mul_comm q n, ← hq]
    omega
  · rintro ⟨q, hq⟩
    refine ⟨h * q + d, ?_⟩
    have a : h * (x - 2 * d) = h * (n * q) := by rw [hq]
    rw [Int.mul_sub] at a
    have b : h * (2 * d) = (n + 1) * d := by rw [e, ← Int.mul_assoc, Int.mul_comm h 2]
    rw [b, Int.add_mul, Int.one_mul] at a
    rw [Int.mul_add, ← Int.mul_assoc, Int.mul_comm n h, Int.mul_assoc, ← a, Int.mul_comm x h]
    omega
theorem half_even {m t d : Int} : (t - d) % m = 0 ↔ (2 * t - 2 * d) % (2 * m) = 0 := by
  rw [← Int.mul_sub, Int.mul_emod_mul_of_pos _ _ (by decide : (0 : Int) < 2)]
  omega
theorem inL_go (ws : List Int) (v : ML) (k : Nat) (h : InL v) : InL (goL ws v k) := by
  match v, h with
  | none, _ => trivial
  | some (n, l), ⟨h0, h1⟩ =>
    rw [goL_some]
    split
    · exact ⟨Int.emod_nonneg _ (by omega), Int.emod_lt_of_pos _ (by omega)⟩
    · split
      · trivial
      · exact ⟨Int.emod_nonneg _ (by omega), Int.emod_lt_of_pos _ (by omega)⟩
theorem meanL_step (ws : List Int) (v : ML) (k : Nat) (d : Int) (h : InL v) : meanL (goL ws v k) d = meanL v (sS ws k + 2 * d) := by
  match v, h with
  | none, _ => rfl
  | some (n, l), ⟨h0, h1⟩ =>
    have e : l - (sS ws k + 2 * d) = (l - sS ws k) - 2 * d := by omega
    rw [goL_some]
    split
    · rename_i hn
      simp only [meanL]
      refine decide_eq_decide.mpr ?_
      rw [mod_sub, half_odd hn, e]
    · rename_i hn
      split
      · rename_i ho
        simp only [meanL]
        refine (decide_eq_false fun z => ?_).symm
        rw [e, ← Int.dvd_iff_emod_eq_zero] at z
        have z2 : (2 : Int) ∣ (l - sS ws k) - 2 * d := Int.dvd_trans (by omega) z
        omega
      · rename_i ho
        simp only [meanL]
        refine decide_eq_decide.mpr ?_
        rw [mod_sub, half_even, e]
        have a : 2 * ((l - sS ws k) / 2) = l - sS ws k := by omega
        have b : 2 * (n / 2) = n := by omega
        rw [a, b]
theorem meanL_zero (v : ML) (h : InL v) : gdL v = meanL v 0 := by
  match v, h with
  | none, _ => rfl
  | some (n, l), ⟨h0, h1⟩ =>
    simp only [gdL, meanL, Int.sub_zero]
    rw [Int.emod_eq_of_lt h0 h1]
theorem L_means {ws : List Int} {n : Nat} {xs : List Nat} {v : ML} (i : InL v) (z : ∀ x ∈ hv n xs, x = 0) : gdL ((word xs n).foldl (goL ws) v) = meanL v (dot ws xs) :=
  fold_means InL meanL meanL_zero (inL_go ws) (meanL_step ws) n xs v i z
theorem gdL_zero (ws : List Int) (v : ML) (h : InL v) : gdL v = gdL (goL ws v 0) := by
  rw [meanL_zero v h, meanL_zero _ (inL_go ws v 0 h), meanL_step ws v 0 0 h, sS_zero]
  rfl
def chain (n : Nat) : List Nat := [n, n / 2, n / 4, n / 8]
def UL (n : Nat) : List ML := none :: (chain n).flatMap fun m => (List.range m).map fun l : Nat => some ((m : Int), (l : Int))
theorem mem_UL {n : Nat} {m l : Int} : some (m, l) ∈ UL n ↔ 0 ≤ l ∧ l < m ∧ m.toNat ∈ chain n := by
  unfold UL
  simp only [List.mem_cons, reduceCtorEq, false_or, List.mem_flatMap, List.mem_map, List.mem_range, Option.some.injEq, Prod.mk.injEq]
  constructor
  · rintro ⟨a, ha, b, hb, rfl, rfl⟩
    exact ⟨by omega, by omega, by simpa using ha⟩
  · rintro ⟨h0, h1, h2⟩
    exact ⟨m.toNat, h2, l.toNat, by omega, by omega, by omega⟩
theorem UL_in {n : Nat} : ∀ v ∈ UL n, InL v
  | none, _ => trivial
  | some (_, _), h => let ⟨a, b, _⟩ := mem_UL.mp h; ⟨a, b⟩
theorem UL_shut {ws : List Int} {n : Nat} (hn : n ≤ 12) : ∀ v ∈ UL n, ∀ k, goL ws v k ∈ UL n
  | none, _, _ => List.mem_cons_self ..
  | some (m, l), h, k => by
    have i := inL_go ws _ k (UL_in _ h)
    obtain ⟨h0, h1, h2⟩ := mem_UL.mp h
    rw [goL_some] at i ⊢
    split
    · rename_i e
      rw [if_pos e] at i
      exact mem_UL.mpr ⟨i.1, i.2, h2⟩
    · rename_i e
      rw [if_neg e] at i
      split
      · exact List.mem_cons_self ..
      · rename_i f
        rw [if_neg f] at i
        refine mem_UL.mpr ⟨i.1, i.2, ?_⟩
        have ev : (m / 2).toNat = m.toNat / 2 := by omega
        rw [ev]
        have om : m.toNat % 2 = 0 ∧ 0 < m.toNat := by omega
        generalize m.toNat = q at h2 om
        unfold chain at h2 ⊢
        simp only [List.mem_cons, List.not_mem_nil, or_false] at h2 ⊢
        omega
theorem UL_len : ∀ n, n ≤ 12 → (UL n).length ≤ 63 := by decide
end L2.NW.Au
end
section
set_option Elab.async false
set_option autoImplicit false
set_option linter.all false
set_option maxRecDepth 100000
set_option maxHeartbeats 4000000
/-! k24, the plain law: explored, of weights -/
namespace K24
open PySem PySem.Spec PyProof.Rows L2 L2.NW L2.NW.Au
/-! ### the texts -/
def wCol (Φ : Nat → Mir) : SW := sSeq (sSet 9 (eCallV (fun _ => false) Φ 2 (aC (eVar 6) (aC (eCall 2 m_column_weight (aC (eVar 0) (aC (eVar 8) aN))) aN)))) (sSeq (blk 9) (sAppend 7 (eOwnL 11 getG (eVar 9))))
def wRow (Φ : Nat → Mir) : SW := sSeq (sParX 6 7 (xVal (eOwnL 4 ixO (eLenO 5))) (xOwn (lLst aN))) (sSeq (sFor (iOf rng1 (aC (e2 shlD (eC (.int 1)) (eBI lenD (aC (eVar 0) aN))) aN)) (.nm 8) (wCol Φ)) (sFz 7 (sAppend 5 (eBI tupD (aC (eVar 7) aN)))))
def wEnd (Φ : Nat → Mir) : SW := sSeq (sFz 4 (sSet 10 (eBI tupL (eLc (iSeq' (eVar 4)) (.nm 6) bT (eCallV (fun _ => false) Φ 3 (aC (eVar 6) aN)) [6]))))
    (sFz 5 (sRet (eCall 1 m_least (aC (eMk 4 "Lot" mi_Lot (aC (eBI lenD (aC (eVar 0) aN)) (aC (eBI tupD (aC (eVar 5) aN)) (aC (eVar 10) (aC (eBI tupL (eLc (iSeq' (eVar 1)) (.nm 6) bT (eOwnL 11 getG (eVar 6)) [6])) aN))))) aN))))
theorem t_weights_split (Φ : Nat → Mir) : t_explored_weights Φ = sSeq (sParN [11, 4, 5] [(fun _ => pure (.ok [])), (xOwn (lLst aN)), (xOwn (lLst aN))])
    (sSeq (sFor (iSeq' (eVar 1)) (.nm 6) (blk 6)) (sSeq (whL (bC ltD (eLenO 5) (eLenO 4)) (wRow Φ) 2000) (wEnd Φ))) := rfl
section
variable {V : Type} [DecidableEq V] {enc : V → D} (key : ∀ v, KeyD (enc v)) (inj : ∀ v w, enc v = enc w → v = w) (nof : ∀ v, D.nofn (enc v) = true)
variable {c : Nat} {go : V → Nat → V} {gd : V → Bool} {bs R : List V} {Φ : Nat → Mir} {j j' : Nat} {d : D}
variable {dy : D} {ws : List Int}
variable (u : Ups c go bs R) (hR : R.length ≤ 1500) (hc : c ≤ 10)
variable (hgo : ∀ v ∈ R, ∀ k, k < 2 ^ c → Φ j [enc v, .int (sS ws k)] = pure (enc (go v k))) (hgd : ∀ v ∈ R, Φ j' [enc v] = pure (.bl (gd v)))
variable (hy : ∃ l : List D, (dy = .tup l ∨ dy = .lst l) ∧ l.length = c) (hcw : ∀ k, k < 2 ^ c → m_column_weight [dy, nD k] = pure (.int (sS ws k)))
/-- the slots: what is found, how many rows stand -/
def Ew (dy : D) (c : Nat) (d : D) (j j' : Nat) (enc : V → D) (go : V → Nat → V) (R row : List V) (k : Nat) (ρ : Env') : Prop := ∃ s6 s7 s8 s9, ρ = [.val dy, .val d, .val (.fn j), .val (.fn j'), .own (row.map enc), .own ((R.take k).map (lineD go R (2 ^ c))), s6, s7, s8, s9, .no, .ok (numD enc row 0)]
include key inj nof u hR hc hgo hgd hy hcw
theorem wbegin_run {s6 s7 s8 s9 : Sl} : ∃ ρ', forL (.nm 6) (blk 6) (bs.map enc) [.val dy, .val d, .val (.fn j), .val (.fn j'), .own [], .own [], s6, s7, s8, s9, .no, .ok []] = pure (.nx ρ') ∧ Ew dy c d j j' enc go R (visits [] bs) 0 ρ' := by
  obtain ⟨ρ', h1, h2⟩ := forL_idx enc (fun i ρ => Ew dy c d j j' enc go R (visits [] (bs.take i)) 0 ρ) bs (t := .nm 6) (tb := blk 6) (ρ := [.val dy, .val d, .val (.fn j), .val (.fn j'), .own [], .own [], s6, s7, s8, s9, .no, .ok []]) ⟨s6, s7, s8, s9, rfl⟩ (by
    rintro i v ρ hv ⟨s6, s7, s8, s9, rfl⟩
    have sub : ∀ x ∈ visits [] (bs.take i), x ∈ R := fun x hx => u.bs x (List.take_subset _ _ (mem_dedup.mp hx))
    refine ⟨_, _, rfl, .inl (blk6 key inj (row_lt u hR (dedup_nodup _) sub)), ?_⟩
    rw [take_snoc hv, visits_append]
    exact ⟨_, s7, s8, s9, rfl⟩)
  rw [List.take_length] at h2
  exact ⟨ρ', h1, h2⟩
/-- one column -/
theorem wcol_run {s5 s10 : Sl} {row : List V} {v : V} {k : Nat} {l : List Nat} {s9 : Sl} (hv : v ∈ R) (hk : k < 2 ^ c) (pre : visit row (go v k) <+: R) (nd : row.Nodup) (hl : l.length ≤ 2000) :
    wCol Φ [.val dy, .val d, .val (.fn j), .val (.fn j'), .own (row.map enc), s5, .val (enc v), .own (l.map nD), .val (nD k), s9, s10, .ok (numD enc row 0)] =
      pure (.nx [.val dy, .val d, .val (.fn j), .val (.fn j'), .own ((visit row (go v k)).map enc), s5, .val (enc v), .own ((l ++ [ixOf R (go v k)]).map nD), .val (nD k), .val (enc (go v k)), s10, .ok (numD enc (visit row (go v k)) 0)]) := by
  have h1 := hgo v hv k hk
  have h0 := hcw k hk
  have nf : D.nofns [enc v, .int (sS ws k)] = true := by simp [D.nofws, D.nofw] at nof ⊢; exact nof v
  have h2 := row_lt u hR nd fun x hx => pre.subset ((visit_pre row (go v k)).subset hx)
  have h3 := blk9 key inj (s0 := .val dy) (s1 := .val d) (s2 := .val (.fn j)) (s3 := .val (.fn j')) (s5 := s5) (s6 := .val (enc v)) (s7 := .own (l.map nD)) (s8 := .val (nD k)) (s10 := s10) (row := row) (v := go v k) h2
  have hk' := key (go v k)
  have lk := lk_num key inj (v := go v k) (row := visit row (go v k))
  rw [if_pos (mem_visit.mpr (.inr rfl)), ← idxOf_pre pre (mem_visit.mpr (.inr rfl))] at lk
  have hl2 : l.length < sizeLine := by have : 3000 ≤ sizeLine := szM (by decide); omega
  simp [eVar, eC, e1, e2, aN, aC, eCall, eMk, eTup, lLst, eOfL, eBI, lBI, bV, bC, bNot, bAnd, bOr, bT, eAnd, eOr, eNot, eIf, oN, oS, iSeq', iOf, sFz, sNext, sSeq, sBreak, sCont, sExpr, sRet, sRetN, sSet, sIf, sFor, sUnp, sPar, sSetOwn, sAppend, sSetIx, sFldD, sRaise, bodyD, startD, tst, oInt, eSl, seq_tup, seq_lst, rng2, enum1, zip2, zip3, lenL, tupL, lenD, tupD, NW.intD, listD, i2, addD, subD, mulI, fdivD, modD, ltD, leD, gtD, geD, eqD, neD, isND, notND, isNone, negD, revD, insD, endI, bodyI, frz, Tgt.st, Tgt.sts, bOwn, eOwn, eOwnL, ownAt, Sl.isOwn, isOk, inG, getG, inLO, inGD, sPutG, sSetdG, eLenO, eLenG, ixO, sParX, sParN, xsM, setAll, xVal, xOwn, lRep, lRg, sSetX, wipeD, wCol, eCallV, nf, h0, h1, h3, hk', lk, hl2]
theorem wcols_run {s7 s8 s9 : Sl} {row : List V} {v : V} {k : Nat} (hv : v ∈ R) (pre : visits row (nx go (2 ^ c) v) <+: R) (nd : row.Nodup) :
    ∃ t8 t9, forL (.nm 8) (wCol Φ) ((List.range (2 ^ c)).map nD) [.val dy, .val d, .val (.fn j), .val (.fn j'), .own (row.map enc), .own ((R.take k).map (lineD go R (2 ^ c))), .val (enc v), .own [], s8, s9, .no, .ok (numD enc row 0)] =
      pure (.nx [.val dy, .val d, .val (.fn j), .val (.fn j'), .own ((visits row (nx go (2 ^ c) v)).map enc), .own ((R.take k).map (lineD go R (2 ^ c))), .val (enc v), .own (((List.range (2 ^ c)).map fun k => ixOf R (go v k)).map nD), t8, t9, .no, .ok (numD enc (visits row (nx go (2 ^ c) v)) 0)]) := by
  have hm : 2 ^ c ≤ 1024 := Nat.pow_le_pow_right (by decide) hc
  obtain ⟨ρ', h1, ⟨t8, t9, h2⟩⟩ := forL_idx nD (fun i ρ => ∃ s8 s9, ρ = [.val dy, .val d, .val (.fn j), .val (.fn j'), .own ((visits row ((List.range i).map (go v))).map enc), .own ((R.take k).map (lineD go R (2 ^ c))), .val (enc v), .own (((List.range i).map fun k => ixOf R (go v k)).map nD), s8, s9, .no, .ok (numD enc (visits row ((List.range i).map (go v))) 0)]) (List.range (2 ^ c)) (t := .nm 8) (tb := wCol Φ) (ρ := [.val dy, .val d, .val (.fn j), .val (.fn j'), .own (row.map enc), .own ((R.take k).map (lineD go R (2 ^ c))), .val (enc v), .own [], s8, s9, .no, .ok (numD enc row 0)]) ⟨s8, s9, rfl⟩ (by
    rintro i x ρ hx ⟨s8, s9, rfl⟩
    obtain ⟨rfl, hi⟩ := range_at hx
    have p : visit (visits row ((List.range i).map (go v))) (go v i) <+: R := by
      rw [← visits_snoc]
      refine List.IsPrefix.trans ?_ pre
      unfold nx
      obtain ⟨t, e⟩ : ∃ t, List.range (2 ^ c) = List.range (i + 1) ++ t := ⟨(List.range (2 ^ c)).drop (i + 1), by
        have := List.take_append_drop (i + 1) (List.range (2 ^ c))
        rw [List.take_range, Nat.min_eq_left hi] at this
        exact this.symm⟩
      rw [e, List.map_append, visits_append]
      exact visits_pre _ _
    refine ⟨_, _, rfl, .inl (wcol_run key inj nof u hR hc hgo hgd hy hcw hv hi p (visits_nodup nd) (by simp; omega)), .val (nD i), .val (enc (go v i)), ?_⟩
    rw [visits_snoc, List.range_succ]
    simp)
  rw [List.length_range] at h2
  subst h2
  exact ⟨t8, t9, h1⟩
theorem wrow_run {row : List V} {v : V} {k : Nat} {ρ : Env'} (e : Ew dy c d j j' enc go R row k ρ) (hv : row[k]? = some v) (pre : visits row (nx go (2 ^ c) v) <+: R) (nd : row.Nodup) : ∃ ρ', wRow Φ ρ = pure (.nx ρ') ∧ Ew dy c d j j' enc go R (visits row (nx go (2 ^ c) v)) (k + 1) ρ' := by
  obtain ⟨s6, s7, s8, s9, rfl⟩ := e
  have hvR : R[k]? = some v := pre_at ((visits_pre _ row).trans pre) hv
  have hkR := (List.getElem?_eq_some_iff.mp hvR).1
  have hm : 2 ^ c ≤ 1024 := Nat.pow_le_pow_right (by decide) hc
  obtain ⟨t8, t9, h1⟩ := wcols_run key inj nof u hR hc hgo hgd hy hcw (d := d) (j := j) (j' := j') (k := k) (s7 := s7) (s8 := s8) (s9 := s9) (List.mem_of_getElem? hvR) pre nd
  have h2 : L2.atI (row.map enc) (k : Int) = some (enc v) := at_enc hv
  have hr := rng_n (n := 2 ^ c) (by omega)
  have hs := shl_c (c := c) (by omega)
  have h3 : min k R.length = k := by omega
  have hz : k < sizeLine := by have : 3000 ≤ sizeLine := szM (by decide); omega
  have e1 : sParX 6 7 (xVal (eOwnL 4 ixO (eLenO 5))) (xOwn (lLst aN)) [.val dy, .val d, .val (.fn j), .val (.fn j'), .own (row.map enc), .own ((R.take k).map (lineD go R (2 ^ c))), s6, s7, s8, s9, .no, .ok (numD enc row 0)] = pure (.nx [.val dy, .val d, .val (.fn j), .val (.fn j'), .own (row.map enc), .own ((R.take k).map (lineD go R (2 ^ c))), .val (enc v), .own [], s8, s9, .no, .ok (numD enc row 0)]) := by
    simp [eVar, eC, e1, e2, aN, aC, eCall, eMk, eTup, lLst, eOfL, eBI, lBI, bV, bC, bNot, bAnd, bOr, bT, eAnd, eOr, eNot, eIf, oN, oS, iSeq', iOf, sFz, sNext, sSeq, sBreak, sCont, sExpr, sRet, sRetN, sSet, sIf, sFor, sUnp, sPar, sSetOwn, sAppend, sSetIx, sFldD, sRaise, bodyD, startD, tst, oInt, eSl, seq_tup, seq_lst, rng2, enum1, zip2, zip3, lenL, tupL, lenD, tupD, NW.intD, listD, i2, addD, subD, mulI, fdivD, modD, ltD, leD, gtD, geD, eqD, neD, isND, notND, isNone, negD, revD, insD, endI, bodyI, frz, Tgt.st, Tgt.sts, bOwn, eOwn, eOwnL, ownAt, Sl.isOwn, isOk, inG, getG, inLO, inGD, sPutG, sSetdG, eLenO, eLenG, ixO, sParX, sParN, xsM, setAll, xVal, xOwn, lRep, lRg, sSetX, wipeD, h2, h3]
  have e2 : (iOf rng1 (aC (e2 shlD (eC (.int 1)) (eBI lenD (aC (eVar 0) aN))) aN)) [.val dy, .val d, .val (.fn j), .val (.fn j'), .own (row.map enc), .own ((R.take k).map (lineD go R (2 ^ c))), .val (enc v), .own [], s8, s9, .no, .ok (numD enc row 0)] = pure ((List.range (2 ^ c)).map nD) := by
    obtain ⟨ly, hl1, hl2⟩ := hy
    rcases hl1 with rfl | rfl <;> simp [eVar, eC, e1, e2, aN, aC, eCall, eMk, eTup, lLst, eOfL, eBI, lBI, bV, bC, bNot, bAnd, bOr, bT, eAnd, eOr, eNot, eIf, oN, oS, iSeq', iOf, sFz, sNext, sSeq, sBreak, sCont, sExpr, sRet, sRetN, sSet, sIf, sFor, sUnp, sPar, sSetOwn, sAppend, sSetIx, sFldD, sRaise, bodyD, startD, tst, oInt, eSl, seq_tup, seq_lst, rng2, enum1, zip2, zip3, lenL, tupL, lenD, tupD, NW.intD, listD, i2, addD, subD, mulI, fdivD, modD, ltD, leD, gtD, geD, eqD, neD, isND, notND, isNone, negD, revD, insD, endI, bodyI, frz, Tgt.st, Tgt.sts, bOwn, eOwn, eOwnL, ownAt, Sl.isOwn, isOk, inG, getG, inLO, inGD, sPutG, sSetdG, eLenO, eLenG, ixO, sParX, sParN, xsM, setAll, xVal, xOwn, lRep, lRg, sSetX, wipeD, hl2, hs, hr, -Int.natCast_pow]
  refine ⟨_, by rw [wRow, sSeq_nx e1, sSeq_nx (by rw [sFor_of e2]; exact h1), last_run (by simp; omega)], .val (enc v), .val (.lst (((List.range (2 ^ c)).map fun k => ixOf R (go v k)).map nD)), t8, t9, ?_⟩
  rw [take_snoc hvR, List.map_append]
  rfl
omit key inj nof u hR hc hgo hgd hy hcw in
theorem wcond_run {row : List V} {k : Nat} {ρ : Env'} (e : Ew dy c d j j' enc go R row k ρ) (hk : k ≤ R.length) : (bC ltD (eLenO 5) (eLenO 4)) ρ = pure (decide (k < row.length)) := by
  obtain ⟨s6, s7, s8, s9, rfl⟩ := e
  have h3 : min k R.length = k := by omega
  simp [eVar, eC, e1, e2, aN, aC, eCall, eMk, eTup, lLst, eOfL, eBI, lBI, bV, bC, bNot, bAnd, bOr, bT, eAnd, eOr, eNot, eIf, oN, oS, iSeq', iOf, sFz, sNext, sSeq, sBreak, sCont, sExpr, sRet, sRetN, sSet, sIf, sFor, sUnp, sPar, sSetOwn, sAppend, sSetIx, sFldD, sRaise, bodyD, startD, tst, oInt, eSl, seq_tup, seq_lst, rng2, enum1, zip2, zip3, lenL, tupL, lenD, tupD, NW.intD, listD, i2, addD, subD, mulI, fdivD, modD, ltD, leD, gtD, geD, eqD, neD, isND, notND, isNone, negD, revD, insD, endI, bodyI, frz, Tgt.st, Tgt.sts, bOwn, eOwn, eOwnL, ownAt, Sl.isOwn, isOk, inG, getG, inLO, inGD, sPutG, sSetdG, eLenO, eLenG, ixO, sParX, sParN, xsM, setAll, xVal, xOwn, lRep, lRg, sSetX, wipeD, h3]
theorem wwhile_run {row : List V} {k : Nat} {R' : List V} (t : Come (nx go (2 ^ c)) row k R') : R' = R → ∀ (n : Nat) (ρ : Env'), R.length < n + k → row.Nodup → Ew dy c d j j' enc go R row k ρ →
    ∃ ρ', whL (bC ltD (eLenO 5) (eLenO 4)) (wRow Φ) n ρ = pure (.nx ρ') ∧ Ew dy c d j j' enc go R R R.length ρ' := by
  induction t with
  | @done row =>
    intro e n ρ hn nd ex
    subst e
    obtain ⟨n, rfl⟩ : ∃ m, n = m + 1 := ⟨n - 1, by omega⟩
    have h1 := wcond_run ex (Nat.le_refl _)
    rw [decide_eq_false (Nat.lt_irrefl _)] at h1
    exact ⟨ρ, by simp [whL, h1], ex⟩
  | @more row R'' k v h t ih =>
    intro e n ρ hn nd ex
    subst e
    have hk := (List.getElem?_eq_some_iff.mp h).1
    have pre := t.pre
    have hk2 : k < R''.length := Nat.lt_of_lt_of_le hk ((visits_pre _ _).trans pre).length_le
    obtain ⟨n, rfl⟩ : ∃ m, n = m + 1 := ⟨n - 1, by omega⟩
    have h1 := wcond_run ex (Nat.le_of_lt hk2)
    rw [decide_eq_true hk] at h1
    obtain ⟨ρ1, h2, h3⟩ := wrow_run key inj nof u hR hc hgo hgd hy hcw ex h pre nd
    obtain ⟨ρ2, h4, h5⟩ := ih rfl n ρ1 (by omega) (visits_nodup nd) h3
    exact ⟨ρ2, by simp only [whL, h1, h2, WP.pure_bind, if_true]; exact h4, h5⟩
/-- the end: the Lot -/
theorem wend_run {ρ : Env'} (e : Ew dy c d j j' enc go R R R.length ρ) (hd : seqOf d = pure (bs.map enc)) (ok : (lotOf c go gd bs R).Ok) {dl : D} (le : m_least [oD (lotOf c go gd bs R)] = pure dl) : wEnd Φ ρ = pure (.rt dl) := by
  obtain ⟨s6, s7, s8, s9, rfl⟩ := e
  rw [List.take_length]
  have g1 : lcL (.nm 6) bT (eCallV (fun _ => false) Φ 3 (aC (eVar 6) aN)) [.val dy, .val d, .val (.fn j), .val (.fn j'), .val (.lst (R.map enc)), .own (R.map (lineD go R (2 ^ c))), .no, s7, s8, s9, .no, .ok (numD enc R 0)] (R.map enc) = pure (R.map fun v => .bl (gd v)) :=
    lcL_enc enc (fun v => .bl (gd v)) R fun v hv => ⟨_, rfl, by
      have nf : D.nofns [enc v] = true := by simp [D.nofws, D.nofw] at nof ⊢; exact nof v
      simp [eVar, eC, e1, e2, aN, aC, eCall, eMk, eTup, lLst, eOfL, eBI, lBI, bV, bC, bNot, bAnd, bOr, bT, eAnd, eOr, eNot, eIf, oN, oS, iSeq', iOf, sFz, sNext, sSeq, sBreak, sCont, sExpr, sRet, sRetN, sSet, sIf, sFor, sUnp, sPar, sSetOwn, sAppend, sSetIx, sFldD, sRaise, bodyD, startD, tst, oInt, eSl, seq_tup, seq_lst, rng2, enum1, zip2, zip3, lenL, tupL, lenD, tupD, NW.intD, listD, i2, addD, subD, mulI, fdivD, modD, ltD, leD, gtD, geD, eqD, neD, isND, notND, isNone, negD, revD, insD, endI, bodyI, frz, Tgt.st, Tgt.sts, bOwn, eOwn, eOwnL, ownAt, Sl.isOwn, isOk, inG, getG, inLO, inGD, sPutG, sSetdG, eLenO, eLenG, ixO, sParX, sParN, xsM, setAll, xVal, xOwn, lRep, lRg, sSetX, wipeD, eCallV, nf, hgd v hv]⟩
  have g2 : lcL (.nm 6) bT (eOwnL 11 getG (eVar 6)) [.val dy, .val d, .val (.fn j), .val (.fn j'), .val (.lst (R.map enc)), .val (.lst (R.map (lineD go R (2 ^ c)))), .no, s7, s8, s9, .val (.tup (R.map fun v => .bl (gd v))), .ok (numD enc R 0)] (bs.map enc) = pure (bs.map fun v => nD (ixOf R v)) :=
    lcL_enc enc (fun v => nD (ixOf R v)) bs fun v hv => ⟨_, rfl, by
      have hk := key v
      have lk := lk_num key inj (v := v) (row := R)
      rw [if_pos (u.bs v hv)] at lk
      simp [eVar, eC, e1, e2, aN, aC, eCall, eMk, eTup, lLst, eOfL, eBI, lBI, bV, bC, bNot, bAnd, bOr, bT, eAnd, eOr, eNot, eIf, oN, oS, iSeq', iOf, sFz, sNext, sSeq, sBreak, sCont, sExpr, sRet, sRetN, sSet, sIf, sFor, sUnp, sPar, sSetOwn, sAppend, sSetIx, sFldD, sRaise, bodyD, startD, tst, oInt, eSl, seq_tup, seq_lst, rng2, enum1, zip2, zip3, lenL, tupL, lenD, tupD, NW.intD, listD, i2, addD, subD, mulI, fdivD, modD, ltD, leD, gtD, geD, eqD, neD, isND, notND, isNone, negD, revD, insD, endI, bodyI, frz, Tgt.st, Tgt.sts, bOwn, eOwn, eOwnL, ownAt, Sl.isOwn, isOk, inG, getG, inLO, inGD, sPutG, sSetdG, eLenO, eLenG, ixO, sParX, sParN, xsM, setAll, xVal, xOwn, lRep, lRg, sSetX, wipeD, hk, lk]⟩
  have mk := mk_ok ok (by show c ≤ 1000; omega) (by simp [lotOf]; omega)
  have m1 : (R.map (lineD go R (2 ^ c))) = (lotOf c go gd bs R).mv.map rD := by
    unfold lotOf lineD
    rw [List.map_map]; rfl
  have m2 : (R.map fun v => D.bl (gd v)) = (lotOf c go gd bs R).gd.map D.bl := by
    unfold lotOf
    rw [List.map_map]; rfl
  have m3 : (bs.map fun v => nD (ixOf R v)) = (lotOf c go gd bs R).bg.map nD := by
    unfold lotOf
    rw [List.map_map]; rfl
  rw [m2] at g1 g2
  rw [m3] at g2
  rw [m1] at g1 g2
  rw [m1]
  have mk' : mi_Lot [nD c, mvD (lotOf c go gd bs R).mv, gdD (lotOf c go gd bs R).gd, rD (lotOf c go gd bs R).bg] = pure (fsL, [nD c, mvD (lotOf c go gd bs R).mv, gdD (lotOf c go gd bs R).gd, rD (lotOf c go gd bs R).bg]) := mk
  have oe : oD (lotOf c go gd bs R) = .ins "Lot" fsL [nD c, mvD (lotOf c go gd bs R).mv, gdD (lotOf c go gd bs R).gd, rD (lotOf c go gd bs R).bg] := rfl
  rw [oe] at le
  generalize (lotOf c go gd bs R).mv = mv at *
  generalize (lotOf c go gd bs R).gd = gg at *
  generalize (lotOf c go gd bs R).bg = bg at *
  obtain ⟨ly, hl1, hl2⟩ := hy
  rcases hl1 with rfl | rfl <;> simp [eVar, eC, e1, e2, aN, aC, eCall, eMk, eTup, lLst, eOfL, eBI, lBI, bV, bC, bNot, bAnd, bOr, bT, eAnd, eOr, eNot, eIf, oN, oS, iSeq', iOf, sFz, sNext, sSeq, sBreak, sCont, sExpr, sRet, sRetN, sSet, sIf, sFor, sUnp, sPar, sSetOwn, sAppend, sSetIx, sFldD, sRaise, bodyD, startD, tst, oInt, eSl, seq_tup, seq_lst, rng2, enum1, zip2, zip3, lenL, tupL, lenD, tupD, NW.intD, listD, i2, addD, subD, mulI, fdivD, modD, ltD, leD, gtD, geD, eqD, neD, isND, notND, isNone, negD, revD, insD, endI, bodyI, frz, Tgt.st, Tgt.sts, bOwn, eOwn, eOwnL, ownAt, Sl.isOwn, isOk, inG, getG, inLO, inGD, sPutG, sSetdG, eLenO, eLenG, ixO, sParX, sParN, xsM, setAll, xVal, xOwn, lRep, lRg, sSetX, wipeD, wEnd, eLc, hl2, hd, g1, g2, mk', le, -List.map_map]
/-- explored, read -/
theorem wexplored_eq (hd : seqOf d = pure (bs.map enc)) (ok : (lotOf c go gd bs R).Ok) {dl : D} (le : m_least [oD (lotOf c go gd bs R)] = pure dl) : M_explored_weights Φ [dy, d, .fn j, .fn j'] = pure dl := by
  obtain ⟨ρ1, h1, e1⟩ := wbegin_run key inj nof u hR hc hgo hgd hy hcw (d := d) (j := j) (j' := j') (s6 := .no) (s7 := .no) (s8 := .no) (s9 := .no)
  obtain ⟨ρ2, h2, e2⟩ := wwhile_run key inj nof u hR hc hgo hgd hy hcw u.come rfl 2000 ρ1 (by omega) (dedup_nodup bs) e1
  have h3 := wend_run key inj nof u hR hc hgo hgd hy hcw e2 hd ok le
  have h0 : sParN [11, 4, 5] [(fun _ => pure (.ok [])), (xOwn (lLst aN)), (xOwn (lLst aN))] (startD 12 [dy, d, .fn j, .fn j']) = pure (.nx [.val dy, .val d, .val (.fn j), .val (.fn j'), .own [], .own [], .no, .no, .no, .no, .no, .ok []]) := by
    simp [eVar, eC, e1, e2, aN, aC, eCall, eMk, eTup, lLst, eOfL, eBI, lBI, bV, bC, bNot, bAnd, bOr, bT, eAnd, eOr, eNot, eIf, oN, oS, iSeq', iOf, sFz, sNext, sSeq, sBreak, sCont, sExpr, sRet, sRetN, sSet, sIf, sFor, sUnp, sPar, sSetOwn, sAppend, sSetIx, sFldD, sRaise, bodyD, startD, tst, oInt, eSl, seq_tup, seq_lst, rng2, enum1, zip2, zip3, lenL, tupL, lenD, tupD, NW.intD, listD, i2, addD, subD, mulI, fdivD, modD, ltD, leD, gtD, geD, eqD, neD, isND, notND, isNone, negD, revD, insD, endI, bodyI, frz, Tgt.st, Tgt.sts, bOwn, eOwn, eOwnL, ownAt, Sl.isOwn, isOk, inG, getG, inLO, inGD, sPutG, sSetdG, eLenO, eLenG, ixO, sParX, sParN, xsM, setAll, xVal, xOwn, lRep, lRg, sSetX, wipeD]
  unfold M_explored_weights bodyD
  rw [t_weights_split, sSeq_nx h0, sSeq_nx (by rw [sFor_of (xs := bs.map enc) (by simp [eVar, eC, e1, e2, aN, aC, eCall, eMk, eTup, lLst, eOfL, eBI, lBI, bV, bC, bNot, bAnd, bOr, bT, eAnd, eOr, eNot, eIf, oN, oS, iSeq', iOf, sFz, sNext, sSeq, sBreak, sCont, sExpr, sRet, sRetN, sSet, sIf, sFor, sUnp, sPar, sSetOwn, sAppend, sSetIx, sFldD, sRaise, bodyD, startD, tst, oInt, eSl, seq_tup, seq_lst, rng2, enum1, zip2, zip3, lenL, tupL, lenD, tupD, NW.intD, listD, i2, addD, subD, mulI, fdivD, modD, ltD, leD, gtD, geD, eqD, neD, isND, notND, isNone, negD, revD, insD, endI, bodyI, frz, Tgt.st, Tgt.sts, bOwn, eOwn, eOwnL, ownAt, Sl.isOwn, isOk, inG, getG, inLO, inGD, sPutG, sSetdG, eLenO, eLenG, ixO, sParX, sParN, xsM, setAll, xVal, xOwn, lRep, lRg, sSetX, wipeD, hd])]; exact h1), sSeq_nx h2, h3]
  rfl
end
end K24
end
section
set_option Elab.async false
set_option autoImplicit false
set_option linter.all false
set_option maxRecDepth 100000
set_option maxHeartbeats 4000000
/-! k24, the plain law: two automata read at once -/
namespace K24
open PySem PySem.Spec PyProof.Rows L2 L2.NW L2.NW.Au
section
variable (g : Nat → Bool)
theorem nw_nat : ∀ l : List Nat, D.nofws g (l.map nD) = true := fun l => by induction l with
  | nil => rfl
  | cons x l ih => simp [D.nofws, D.nofw, ih]
theorem nw_rows : ∀ l : List (List Nat), D.nofws g (l.map rD) = true := fun l => by induction l with
  | nil => rfl
  | cons x l ih => simp [D.nofws, D.nofw, ih, nw_nat g]
theorem nw_bls : ∀ l : List Bool, D.nofws g (l.map D.bl) = true := fun l => by induction l with
  | nil => rfl
  | cons x l ih => simp [D.nofws, D.nofw, ih]
theorem nw_oD (A : Lt) : D.nofw g (oD A) = true := by simp [oD, D.nofws, D.nofw, nw_nat g, nw_rows g, nw_bls g]
end
theorem nof_oD (A : Lt) : (oD A).nofn = true := nw_oD _ A
end K24
end
section
set_option Elab.async false
set_option autoImplicit false
set_option linter.all false
set_option maxRecDepth 100000
set_option maxHeartbeats 4000000
/-! k24, the plain law: the package's automata of weights -/
namespace K24
open PySem PySem.Spec PyProof.Rows L2 L2.NW L2.NW.Au
theorem need_sz {α : Type} {n : Nat} (h : n ≤ 1000000) (m : WP α) : WP.need (n ≤ sizeLine) m = m := WP.need_of (szM h) m
theorem subD_i (a b : Int) : subD (.int a) (.int b) = pure (.int (a - b)) := by simp only [subD, i2, WP.need_true]
theorem addD_i (a b : Int) : addD (.int a) (.int b) = pure (.int (a + b)) := by simp only [addD]
theorem eqD_i (a b : Int) : eqD (.int a) (.int b) = pure (.bl (decide (a = b))) := by
  unfold eqD
  rw [WP.need_of (And.intro (deep_int _ _) (deep_int _ _)), deq_int]
theorem andD_i (a : Int) : andD (.int a) (.int 1) = pure (.int (a % 2)) := by
  simp only [andD, i2, WP.need_true, bitAnd_m1]
theorem fdivD_i {a b : Int} (h0 : 0 < b) (h1 : b ≤ 1000) : fdivD (.int a) (.int b) = pure (.int (a / b)) := by
  have c : CDiv a b := ⟨by omega, by omega⟩
  simp only [fdivD, i2, WP.need_of c]
theorem mulI_i {a b : Int} (h : -1000 ≤ a ∧ a ≤ 1000) : mulI (.int a) (.int b) = pure (.int (a * b)) := by
  have c : CMul a b := .inl ⟨by omega, by omega⟩
  simp only [mulI, i2, WP.need_of c]
theorem geD_i (a b : Int) : geD (.int a) (.int b) = pure (.bl (decide (b ≤ a))) := by simp only [geD, i2, WP.need_true]
theorem ltD_i (a b : Int) : ltD (.int a) (.int b) = pure (.bl (decide (a < b))) := by simp only [ltD, i2, WP.need_true]
/-! ### what values are -/
def encO : Option Int → D
  | none => .non
  | some i => .int i
theorem key_O (v : Option Int) : KeyD (encO v) := by
  cases v with
  | none => exact ⟨.none, rfl, by simp [NestedKey.depth], fun x z => by cases z⟩
  | some i => exact key_int i
theorem inj_O (v w : Option Int) (h : encO v = encO w) : v = w := by
  cases v <;> cases w <;> simp_all [encO]
theorem nof_O (v : Option Int) : D.nofn (encO v) = true := by cases v <;> rfl
def encL : ML → D
  | none => .non
  | some (n, l) => .tup [.int n, .int l]
theorem key_L (v : ML) : KeyD (encL v) := by
  match v with
  | none => exact ⟨.none, rfl, by simp [NestedKey.depth], fun x z => by cases z⟩
  | some (n, l) => exact ⟨.tup [.num n, .num l], rfl, by simp [NestedKey.depth, NestedKey.depthAll], fun x z => by cases z⟩
theorem inj_L (v w : ML) (h : encL v = encL w) : v = w := by
  match v, w with
  | none, none => rfl
  | none, some (_, _) => cases h
  | some (_, _), none => cases h
  | some (_, _), some (_, _) => simp_all [encL]
theorem nof_L (v : ML) : D.nofn (encL v) = true := by
  match v with
  | none => rfl
  | some (_, _) => rfl
/-- a row of ints, of either kind -/
def IsR (d : D) (ns : List Int) : Prop := d = .tup (ns.map D.int) ∨ d = .lst (ns.map D.int)
theorem IsR.seq {d : D} {ns : List Int} (h : IsR d ns) : seqOf d = pure (ns.map D.int) := by rcases h with rfl | rfl <;> rfl
theorem IsR.row {d : D} {ns : List Int} (h : IsR d ns) : ∃ l : List D, (d = .tup l ∨ d = .lst l) ∧ l.length = ns.length := by
  rcases h with rfl | rfl
  · exact ⟨_, .inl rfl, by simp⟩
  · exact ⟨_, .inr rfl, by simp⟩
theorem nw_ints (g : Nat → Bool) : ∀ l : List Int, D.nofws g (l.map D.int) = true := fun l => by induction l with
  | nil => rfl
  | cons x l ih => simp [D.nofws, D.nofw, ih]
theorem IsR.nof {d : D} {ns : List Int} (h : IsR d ns) (g : Nat → Bool) : D.nofw g d = true := by rcases h with rfl | rfl <;> simp [D.nofw, nw_ints]
/-! ### the weight of a column -/
def kI (ws : List Int) (i : Nat) : Int := (ws[i]?).getD 0
theorem sumD_i (l : List Int) : sumD (l.map D.int) = pure (.int l.sum) := by
  have := asInts_map (fun i : Int => i) l
  simp only [List.map_id'] at this
  simp only [sumD, this]
theorem sum_flt (ws : List Int) (k : Nat) : ∀ n, n ≤ ws.length → (((List.range n).filter fun i => decide (k / 2 ^ i % 2 = 1)).map (kI ws)).sum = sS (ws.take n) k
  | 0, _ => by simp [sS]
  | n + 1, h => by
    have at_ : ws[n]? = some ws[n] := List.getElem?_eq_getElem h
    have lt : (ws.take n).length = n := by rw [List.length_take]; omega
    rw [List.range_succ, List.filter_append, List.map_append, List.sum_append, sum_flt ws k n (by omega), take_snoc at_, sS_snoc, lt]
    congr 1
    have m : k / 2 ^ n % 2 = 0 ∨ k / 2 ^ n % 2 = 1 := by omega
    rcases m with m | m
    · simp [m]
    · simp [m, kI, at_]
theorem cw_eq {dy : D} {ws : List Int} (h : IsR dy ws) (k : Nat) : m_column_weight [dy, nD k] = pure (.int (sS ws k)) := by
  have en : enumL (ws.map D.int) = (List.range ws.length).map fun i => D.tup [nD i, .int (kI ws i)] := by
    refine List.ext_getElem (by simp [enumL]) fun i h1 h2 => ?_
    have hi : i < ws.length := by simpa [enumL] using h1
    simp [enumL, kI, hi]
  have lc := lcL_encF (t := .cons (.nm 2) (.cons (.nm 3) .nil)) (tt := bC eqD (e2 andD (e2 shrD (eVar 1) (eVar 2)) (eC (.int 1))) (eC (.int 1))) (te := eVar 3) (ρ := [.val dy, .val (nD k), .no, .no]) (fun i => D.tup [nD i, .int (kI ws i)]) (fun i => D.int (kI ws i)) (fun i => decide (k / 2 ^ i % 2 = 1)) (List.range ws.length) fun i _ => ⟨_, rfl, by
    have s := shr_n k i
    have a := and_n (k / 2 ^ i)
    have e := eqD_i ((k / 2 ^ i % 2 : Nat) : Int) 1
    simp only [bC, NW.e2, eVar, eC, List.set_cons_succ, List.set_cons_zero, List.getElem?_cons_zero, List.getElem?_cons_succ, WP.pure_bind, s, a, e, tst]
    rw [show decide (((k / 2 ^ i % 2 : Nat) : Int) = 1) = decide (k / 2 ^ i % 2 = 1) from decide_eq_decide.mpr (by omega)]
    rfl, fun _ => rfl⟩
  have sm := sumD_i (((List.range ws.length).filter fun i => decide (k / 2 ^ i % 2 = 1)).map (kI ws))
  rw [List.map_map, sum_flt ws k _ (Nat.le_refl _), List.take_length] at sm
  unfold m_column_weight bodyD
  rw [show startD 4 [dy, nD k] = [.val dy, .val (nD k), .no, .no] from rfl]
  simp only [t_column_weight, sRet, eBI, eLc, iOf, aC, aN, eVar, List.getElem?_cons_zero, List.getElem?_cons_succ, WP.pure_bind, enum1, h.seq, en, wipeD, List.set_cons_succ, List.set_cons_zero, lc]
  rw [show (fun i => D.int (kI ws i)) = D.int ∘ kI ws from rfl, sm]
  rfl
/-! ### the least automaton of values -/
/-- a least automaton that reads so from its begins -/
structure Told (c : Nat) (bhs : List Bh) (A : Lt) : Prop where
  ok : A.Ok
  ca : A.c = c
  few : A.mv.length ≤ 63
  bg : A.bg.map A.beh = bhs
  inj : ∀ i j, i < A.mv.length → j < A.mv.length → A.beh i = A.beh j → i = j
  num : Ups A.c A.go A.bg (List.range A.mv.length)
section
variable {V : Type} [DecidableEq V] {enc : V → D} (key : ∀ v, KeyD (enc v)) (inj : ∀ v w, enc v = enc w → v = w) (nof : ∀ v, D.nofn (enc v) = true)
include key inj nof in
theorem wx {go : V → Nat → V} {gd : V → Bool} {bs U : List V} {Φ : Nat → Mir} {j j' : Nat} {d dy : D} {ws : List Int} (c3 : ws.length ≤ 3) (hU : U.length ≤ 63) (hb : ∀ v ∈ bs, v ∈ U) (sh : ∀ v ∈ U, ∀ k, go v k ∈ U) (z : ∀ v ∈ U, gd v = gd (go v 0)) (ne : bs ≠ [])
    (hgo : ∀ v ∈ U, ∀ k, k < 2 ^ ws.length → Φ j [enc v, .int (sS ws k)] = pure (enc (go v k))) (hgd : ∀ v ∈ U, Φ j' [enc v] = pure (.bl (gd v))) (hy : IsR dy ws) (hd : seqOf d = pure (bs.map enc)) :
    ∃ A, Told ws.length (bs.map (beh go gd (2 ^ ws.length))) A ∧ M_explored_weights Φ [dy, d, .fn j, .fn j'] = pure (oD A) := by
  obtain ⟨R, u, hR, lR⟩ := ups_within (c := ws.length) (go := go) U hb sh
  have ok : (lotOf ws.length go gd bs R).Ok := lotOf_ok u (fun v hv => z v (hR v hv)) ne
  have n63 : (lotOf ws.length go gd bs R).mv.length ≤ 63 := by simp [lotOf]; omega
  obtain ⟨R', c', le⟩ := least_eq ok n63 (show ws.length ≤ 10 by omega)
  have few := can_le ok c'
  have told : Told ws.length ((lotOf ws.length go gd bs R).bg.map (lotOf ws.length go gd bs R).beh) (canLot ws.length ((lotOf ws.length go gd bs R).bg.map (lotOf ws.length go gd bs R).beh) R') :=
    ⟨can_ok ok c', rfl, by rw [show (canLot ws.length ((lotOf ws.length go gd bs R).bg.map (lotOf ws.length go gd bs R).beh) R').mv.length = R'.length from can_len (A := lotOf ws.length go gd bs R)]; omega, can_bg ok c', can_inj ok c', by
      rw [show (canLot ws.length ((lotOf ws.length go gd bs R).bg.map (lotOf ws.length go gd bs R).beh) R').mv.length = R'.length from can_len (A := lotOf ws.length go gd bs R)]
      exact can_numbered c'⟩
  have bg := lotOf_bg (gd := gd) u
  rw [bg] at told
  have eq : canLot (lotOf ws.length go gd bs R).c ((lotOf ws.length go gd bs R).bg.map (lotOf ws.length go gd bs R).beh) R' = canLot ws.length (bs.map (beh go gd (2 ^ ws.length))) R' := by rw [bg]; rfl
  rw [eq] at le
  exact ⟨_, told, wexplored_eq key inj nof u (by omega) (by omega) (fun v hv => hgo v (hR v hv)) (fun v hv => hgd v (hR v hv)) hy.row (fun k _ => cw_eq hy k) hd ok le⟩
end
/-! ### is; is at most -/
section
variable {dy dv : D} {ws vs : List Int} (hy : IsR dy ws) (hv : IsR dv vs) (c3 : ws.length ≤ 3) (h5 : ∀ w ∈ ws, -5 ≤ w ∧ w ≤ 5) (v5 : ∀ w ∈ vs, -5 ≤ w ∧ w ≤ 5) (v0 : vs ≠ []) {c : Int} (hc : -8 ≤ c ∧ c ≤ 16)
include hy hv c3 h5 v5 v0 hc
theorem begs_run {t : Nat} {ρ : Env'} {te : EW} {enc : Int → D} (h : ∀ x ∈ vs, ∃ ρ1, (Tgt.nm t).st (.int x) ρ = some ρ1 ∧ te ρ1 = pure (enc x)) : lcL (.nm t) bT te ρ (vs.map D.int) = pure (vs.map enc) :=
  lcL_enc D.int enc vs fun x hx => let ⟨ρ1, a, b⟩ := h x hx; ⟨ρ1, a, by rw [b]; rfl⟩
theorem in_US (ex : Bool) : ∀ v ∈ vs.map (fun x => some (c - x)), v ∈ US ex := fun v h => by
  obtain ⟨x, hx, rfl⟩ := List.mem_map.mp h
  have := v5 x hx
  exact mem_UV.mpr (by omega)
theorem equal_eq : ∃ A, Told ws.length ((vs.map fun x => some (c - x)).map (beh (goS ws true) (gdS true) (2 ^ ws.length))) A ∧ m_weights_equal [dy, dv, .int c] = pure (oD A) := by
  let ρ : Env' := [.val dy, .val dv, .val (.int c), .no]
  have hgo : ∀ v ∈ US true, ∀ k, k < 2 ^ ws.length → mixM (own_weights_equal Φ0) ρ Φ0 7 [encO v, .int (sS ws k)] = pure (encO (goS ws true v k)) := fun v _ k _ => by
    show WP.need ([encO v, D.int (sS ws k)].length = 2) (WP.nofnx (m_halved [encO v, .int (sS ws k)])) = _
    have r : m_halved [encO v, .int (sS ws k)] = pure (encO (goS ws true v k)) := by
      unfold m_halved bodyD
      cases v with
      | none => rfl
      | some i =>
        have q : isND (.int i) .non = pure (.bl false) := rfl
        have s := subD_i i (sS ws k)
        have a := andD_i (i - sS ws k)
        have e := eqD_i ((i - sS ws k) % 2) 1
        have f := fdivD_i (a := i - sS ws k) (b := 2) (by decide) (by decide)
        rw [show startD 2 [encO (some i), .int (sS ws k)] = [.val (.int i), .val (.int (sS ws k))] from rfl]
        unfold goS
        by_cases h : (i - sS ws k) % 2 = 1
        · rw [decide_eq_true h] at e
          simp only [t_halved, sSeq, sIf, bOr, bC, NW.e2, eVar, eC, List.getElem?_cons_zero, List.getElem?_cons_succ, WP.pure_bind, q, s, a, e, tst, Bool.false_eq_true, if_false, if_true, sRet, decide_eq_true h, Bool.true_and]
          rfl
        · rw [decide_eq_false h] at e
          simp only [t_halved, sSeq, sIf, bOr, bC, NW.e2, eVar, eC, List.getElem?_cons_zero, List.getElem?_cons_succ, WP.pure_bind, q, s, a, e, f, tst, Bool.false_eq_true, if_false, sNext, sRet, decide_eq_false h, Bool.and_false]
          rfl
    simp only [List.length_cons, List.length_nil, WP.need_true, r]
    exact WP.nofnx_pure (nof_O _)
  have hgd : ∀ v ∈ US true, mixM (own_weights_equal Φ0) ρ Φ0 6 [encO v] = pure (.bl (gdS true v)) := fun v _ => by
    show WP.need ([encO v].length = 1) (WP.nofnx (te_6 [.val (encO v)])) = _
    have r : te_6 [.val (encO v)] = pure (.bl (gdS true v)) := by
      cases v with
      | none =>
        have e : eqD .non (.int 0) = pure (.bl false) := by
          unfold eqD
          rw [WP.need_of (And.intro (by simp [D.deep]) (deep_int _ _))]
          rfl
        simp only [te_6, encO, NW.e2, eVar, eC, List.getElem?_cons_zero, WP.pure_bind, e, gdS]
      | some i =>
        have e := eqD_i i 0
        simp only [te_6, encO, NW.e2, eVar, eC, List.getElem?_cons_zero, WP.pure_bind, e, gdS, if_true]
    simp only [List.length_cons, List.length_nil, WP.need_true, r]
    exact WP.nofnx_pure rfl
  obtain ⟨A, told, run⟩ := wx key_O inj_O nof_O (bs := vs.map fun x => some (c - x)) (d := .lst ((vs.map fun x => some (c - x)).map encO)) c3 (US_len true) (in_US hy hv c3 h5 v5 v0 hc true) (US_shut c3 h5 true) (fun v _ => gdS_zero ws true v) (by simpa using v0) hgo hgd hy rfl
  refine ⟨A, told, ?_⟩
  have nw : D.nofws (fun _ => true) [dy, dv, .int c] = true := by simp [D.nofws, hy.nof, hv.nof, D.nofw]
  have lc := begs_run hy hv c3 h5 v5 v0 hc (t := 3) (te := e2 subD (eVar 2) (eVar 3)) (ρ := [.val dy, .val dv, .val (.int c), .no]) (enc := fun x => encO (some (c - x))) fun x _ => ⟨_, rfl, by
    have s := subD_i c x
    simp only [NW.e2, eVar, List.set_cons_succ, List.set_cons_zero, List.getElem?_cons_zero, List.getElem?_cons_succ, WP.pure_bind, s]
    rfl⟩
  have mm : (vs.map fun x => encO (some (c - x))) = (vs.map fun x => some (c - x)).map encO := by rw [List.map_map]; rfl
  rw [mm] at lc
  have r' : M_explored_weights (mixM (own_weights_equal Φ0) [.val dy, .val dv, .val (.int c), .no] Φ0) [dy, .lst ((vs.map fun x => some (c - x)).map encO), .fn 7, .fn 6] = pure (oD A) := run
  have run2 : bodyD 4 (t_weights_equal Φ0) [dy, dv, .int c] = pure (oD A) := by
    unfold bodyD
    rw [show startD 4 [dy, dv, .int c] = [.val dy, .val dv, .val (.int c), .no] from rfl]
    simp only [t_weights_equal, sRet, eCallH, eOfL, eLc, iSeq', aC, aN, eC, eVar, List.getElem?_cons_zero, List.getElem?_cons_succ, WP.pure_bind, hv.seq, wipeD, List.set_cons_succ, List.set_cons_zero, lc, List.length_cons, List.length_nil, WP.need_true, r']
  unfold m_weights_equal bodyM
  rw [WP.need_of nw]
  show WP.nofnx (bodyD 4 (t_weights_equal Φ0) _) = _
  rw [run2, WP.nofnx_pure (nof_oD _)]
end
end K24
end
section
set_option Elab.async false
set_option autoImplicit false
set_option linter.all false
set_option maxRecDepth 100000
set_option maxHeartbeats 4000000
/-! k24, the plain law: weights at most, weights modulo a number -/
namespace K24
open PySem PySem.Spec PyProof.Rows L2 L2.NW L2.NW.Au
section
variable {dy dv : D} {ws vs : List Int} (hy : IsR dy ws) (hv : IsR dv vs) (c3 : ws.length ≤ 3) (h5 : ∀ w ∈ ws, -5 ≤ w ∧ w ≤ 5) (v5 : ∀ w ∈ vs, -5 ≤ w ∧ w ≤ 5) (v0 : vs ≠ []) {c : Int} (hc : -8 ≤ c ∧ c ≤ 16)
include hy hv c3 h5 v5 v0 hc
theorem below_wt_eq : ∃ A, Told ws.length ((vs.map fun x => some (c - x)).map (beh (goS ws false) (gdS false) (2 ^ ws.length))) A ∧ m_weights_below [dy, dv, .int c] = pure (oD A) := by
  let ρ : Env' := [.val dy, .val dv, .val (.int c), .val (.lst ((vs.map fun x => some (c - x)).map encO)), .no]
  have hgo : ∀ v ∈ US false, ∀ k, k < 2 ^ ws.length → mixM (own_weights_below Φ0) ρ Φ0 9 [encO v, .int (sS ws k)] = pure (encO (goS ws false v k)) := fun v hv k _ => by
    show WP.need ([encO v, D.int (sS ws k)].length = 2) (WP.nofnx (te_9 [.val (encO v), .val (.int (sS ws k))])) = _
    have r : te_9 [.val (encO v), .val (.int (sS ws k))] = pure (encO (goS ws false v k)) := by
      cases v with
      | none => exact absurd hv none_iv
      | some i =>
        have s := subD_i i (sS ws k)
        have f := fdivD_i (a := i - sS ws k) (b := 2) (by decide) (by decide)
        simp only [te_9, encO, NW.e2, eVar, eC, List.getElem?_cons_zero, List.getElem?_cons_succ, WP.pure_bind, s, f, goS, Bool.false_and, Bool.false_eq_true, if_false]
    simp only [List.length_cons, List.length_nil, WP.need_true, r]
    exact WP.nofnx_pure (nof_O _)
  have hgd : ∀ v ∈ US false, mixM (own_weights_below Φ0) ρ Φ0 8 [encO v] = pure (.bl (gdS false v)) := fun v hv => by
    show WP.need ([encO v].length = 1) (WP.nofnx (te_8 [.val (encO v)])) = _
    have r : te_8 [.val (encO v)] = pure (.bl (gdS false v)) := by
      cases v with
      | none => exact absurd hv none_iv
      | some i =>
        have e := geD_i i 0
        simp only [te_8, encO, NW.e2, eVar, eC, List.getElem?_cons_zero, WP.pure_bind, e, gdS, Bool.false_eq_true, if_false]
    simp only [List.length_cons, List.length_nil, WP.need_true, r]
    exact WP.nofnx_pure rfl
  obtain ⟨A, told, run⟩ := wx key_O inj_O nof_O (bs := vs.map fun x => some (c - x)) (d := .lst ((vs.map fun x => some (c - x)).map encO)) c3 (US_len false) (in_US hy hv c3 h5 v5 v0 hc false) (US_shut c3 h5 false) (fun v _ => gdS_zero ws false v) (by simpa using v0) hgo hgd hy rfl
  refine ⟨A, told, ?_⟩
  have nw : D.nofws (fun _ => true) [dy, dv, .int c] = true := by simp [D.nofws, hy.nof, hv.nof, D.nofw]
  have lc := begs_run hy hv c3 h5 v5 v0 hc (t := 4) (te := e2 subD (eVar 2) (eVar 4)) (ρ := [.val dy, .val dv, .val (.int c), .no, .no]) (enc := fun x => encO (some (c - x))) fun x _ => ⟨_, rfl, by
    have s := subD_i c x
    simp only [NW.e2, eVar, List.set_cons_succ, List.set_cons_zero, List.getElem?_cons_zero, List.getElem?_cons_succ, WP.pure_bind, s]
    rfl⟩
  have mm : (vs.map fun x => encO (some (c - x))) = (vs.map fun x => some (c - x)).map encO := by rw [List.map_map]; rfl
  rw [mm] at lc
  have r' : M_explored_weights (mixM (own_weights_below Φ0) [.val dy, .val dv, .val (.int c), .val (.lst ((vs.map fun x => some (c - x)).map encO)), .no] Φ0) [dy, .lst ((vs.map fun x => some (c - x)).map encO), .fn 9, .fn 8] = pure (oD A) := run
  have run2 : bodyD 5 (t_weights_below Φ0) [dy, dv, .int c] = pure (oD A) := by
    unfold bodyD
    rw [show startD 5 [dy, dv, .int c] = [.val dy, .val dv, .val (.int c), .no, .no] from rfl]
    simp only [t_weights_below, sSeq, sSet, sRet, eCallH, eOfL, eLc, iSeq', aC, aN, eC, eVar, List.getElem?_cons_zero, List.getElem?_cons_succ, WP.pure_bind, hv.seq, wipeD, List.set_cons_succ, List.set_cons_zero, lc, List.length_cons, List.length_nil, WP.need_true, r']
  unfold m_weights_below bodyM
  rw [WP.need_of nw]
  show WP.nofnx (bodyD 5 (t_weights_below Φ0) _) = _
  rw [run2, WP.nofnx_pure (nof_oD _)]
end
/-! ### is like -/
theorem rest_eq {v n : Int} (h0 : 0 < n) (h1 : n ≤ 100) (hv : -1000 ≤ v ∧ v ≤ 1000) : m_rest [.int v, .int n] = pure (.int (v % n)) := by
  have f := fdivD_i (a := v) (b := n) h0 (by omega)
  have m : mulI (.int (v / n)) (.int n) = pure (.int (v / n * n)) := mulI_i (by
    have a := Int.emod_def v n
    have b := Int.emod_nonneg v (b := n) (by omega)
    have c := Int.emod_lt_of_pos v h0
    generalize v / n = q at *
    generalize v % n = r at *
    constructor
    · refine Int.not_lt.mp fun h => ?_
      have : n * q ≤ n * (-1001) := Int.mul_le_mul_of_nonneg_left (by omega) (by omega)
      omega
    · refine Int.not_lt.mp fun h => ?_
      have : n * 1001 ≤ n * q := Int.mul_le_mul_of_nonneg_left (by omega) (by omega)
      omega)
  have s := subD_i v (v / n * n)
  unfold m_rest bodyD
  rw [show startD 2 [D.int v, .int n] = [.val (.int v), .val (.int n)] from rfl]
  simp only [t_rest, sRet, NW.e2, eVar, List.getElem?_cons_zero, List.getElem?_cons_succ, WP.pure_bind, f, m, s]
  rw [show v - v / n * n = v % n from by rw [Int.emod_def, Int.mul_comm]]
theorem sS_five {ws : List Int} (c3 : ws.length ≤ 3) (h5 : ∀ w ∈ ws, -5 ≤ w ∧ w ≤ 5) (k : Nat) : -15 ≤ sS ws k ∧ sS ws k ≤ 15 := by
  obtain ⟨a, b⟩ := sS_in ws k
  obtain ⟨p, q⟩ := five_in ws h5
  omega
theorem chain_le {n m : Nat} (h : m ∈ chain n) : m ≤ n := by
  unfold chain at h
  simp only [List.mem_cons, List.not_mem_nil, or_false] at h
  omega
theorem mul_bd {a h : Int} (ha : -100 ≤ a ∧ a ≤ 100) (hh : 0 ≤ h ∧ h ≤ 10) : -1000 ≤ a * h ∧ a * h ≤ 1000 := by
  have e : a * h ≤ 100 * h := Int.mul_le_mul_of_nonneg_right ha.2 hh.1
  have f : -100 * h ≤ a * h := Int.mul_le_mul_of_nonneg_right ha.1 hh.1
  omega
theorem like_step {ws : List Int} (c3 : ws.length ≤ 3) (h5 : ∀ w ∈ ws, -5 ≤ w ∧ w ≤ 5) {n : Nat} (hn : n ≤ 12) (v : ML) (hv : v ∈ UL n) (k : Nat) : m_halved_like [encL v, .int (sS ws k)] = pure (encL (goL ws v k)) := by
  unfold m_halved_like bodyD
  match v, hv with
  | none, _ => rfl
  | some (m, l), hv =>
    obtain ⟨h0, h1, h2⟩ := mem_UL.mp hv
    have mn := chain_le h2
    have sb := sS_five c3 h5 k
    rw [goL_some]
    generalize sS ws k = z at *
    have q : isND (encL (some (m, l))) .non = pure (.bl false) := rfl
    have w1 : (sIf (bC isND (eVar 0) (eC .non)) (sRet (eC .non)) sNext) [.val (encL (some (m, l))), .val (.int z), .no, .no] = pure (.nx [.val (encL (some (m, l))), .val (.int z), .no, .no]) := by
      simp only [sIf, bC, NW.e2, eVar, eC, List.getElem?_cons_zero, WP.pure_bind, q, tst, Bool.false_eq_true, if_false, sNext]
    have w2 : (sUnp (.cons (.nm 2) (.cons (.nm 3) .nil)) (eVar 0)) [.val (encL (some (m, l))), .val (.int z), .no, .no] = pure (.nx [.val (encL (some (m, l))), .val (.int z), .val (.int m), .val (.int l)]) := rfl
    rw [show startD 4 [encL (some (m, l)), .int z] = [.val (encL (some (m, l))), .val (.int z), .no, .no] from rfl]
    unfold t_halved_like
    rw [sSeq_nx w1, sSeq_nx w2]
    have a1 := andD_i m
    have e1' := eqD_i (m % 2) 1
    have s1 := subD_i l z
    by_cases ho : m % 2 = 1
    · rw [decide_eq_true ho] at e1'
      have p1 := addD_i m 1
      have f1 := fdivD_i (a := m + 1) (b := 2) (by decide) (by decide)
      have m1 : mulI (.int (l - z)) (.int ((m + 1) / 2)) = pure (.int ((l - z) * ((m + 1) / 2))) := mulI_i (by omega)
      have r1 := rest_eq (v := (l - z) * ((m + 1) / 2)) (n := m) (by omega) (by omega) (mul_bd (by omega) (by omega))
      rw [if_pos ho]
      simp only [sSeq, sIf, bC, NW.e2, eTup, eCall, aC, aN, eVar, eC, List.getElem?_cons_zero, List.getElem?_cons_succ, WP.pure_bind, a1, e1', tst, if_true, sRet, s1, p1, f1, m1, List.length_cons, List.length_nil, WP.need_true, r1, need_sz, Nat.reduceAdd, Nat.reduceLeDiff]
      rfl
    · rw [decide_eq_false ho] at e1'
      rw [if_neg ho]
      have a2 := andD_i (l - z)
      have e2' := eqD_i ((l - z) % 2) 1
      by_cases hl : (l - z) % 2 = 1
      · rw [decide_eq_true hl] at e2'
        rw [if_pos hl]
        simp only [sSeq, sIf, bC, NW.e2, eVar, eC, List.getElem?_cons_zero, List.getElem?_cons_succ, WP.pure_bind, a1, e1', tst, if_true, Bool.false_eq_true, if_false, sNext, sRet, s1, a2, e2']
        rfl
      · rw [decide_eq_false hl] at e2'
        rw [if_neg hl]
        have f1 := fdivD_i (a := m) (b := 2) (by decide) (by decide)
        have f2 := fdivD_i (a := l - z) (b := 2) (by decide) (by decide)
        have r1 := rest_eq (v := (l - z) / 2) (n := m / 2) (by omega) (by omega) (by omega)
        simp only [sSeq, sIf, bC, NW.e2, eTup, eCall, aC, aN, eVar, eC, List.getElem?_cons_zero, List.getElem?_cons_succ, WP.pure_bind, a1, e1', tst, Bool.false_eq_true, if_false, sNext, sRet, s1, a2, e2', f1, f2, List.length_cons, List.length_nil, WP.need_true, r1, need_sz, Nat.reduceAdd, Nat.reduceLeDiff]
        rfl
theorem like_good (v : ML) : te_4 [.val (encL v)] = pure (.bl (gdL v)) := by
  match v with
  | none =>
    have q : notND .non .non = pure (.bl false) := rfl
    simp only [te_4, encL, eAnd, NW.e2, eVar, eC, List.getElem?_cons_zero, WP.pure_bind, q, tst, Bool.false_eq_true, if_false, gdL]
  | some (n, l) =>
    have q : notND (.tup [.int n, .int l]) .non = pure (.bl true) := rfl
    have i : ixD (.tup [.int n, .int l]) (.int 1) = pure (.int l) := rfl
    have e := eqD_i l 0
    simp only [te_4, encL, eAnd, NW.e2, eVar, eC, List.getElem?_cons_zero, WP.pure_bind, q, i, e, tst, if_true, gdL]
section
variable {dy dv : D} {ws vs : List Int} (hy : IsR dy ws) (hv : IsR dv vs) (c3 : ws.length ≤ 3) (h5 : ∀ w ∈ ws, -5 ≤ w ∧ w ≤ 5) (v5 : ∀ w ∈ vs, -5 ≤ w ∧ w ≤ 5) (v0 : vs ≠ []) {c : Int} (hc : -8 ≤ c ∧ c ≤ 16) {n : Nat} (hn : n ≤ 12) (n0 : 0 < n)
include hy hv c3 h5 v5 v0 hc hn n0
theorem like_eq : ∃ A, Told ws.length ((vs.map fun x => some ((n : Int), (c - x) % (n : Int))).map (beh (goL ws) gdL (2 ^ ws.length))) A ∧ m_weights_like [dy, dv, nD n, .int c] = pure (oD A) := by
  let bs : List ML := vs.map fun x => some ((n : Int), (c - x) % (n : Int))
  let ρ : Env' := [.val dy, .val dv, .val (nD n), .val (.int c), .val (.lst (bs.map encL)), .no]
  have hgo : ∀ v ∈ UL n, ∀ k, k < 2 ^ ws.length → mixM (own_weights_like Φ0) ρ Φ0 5 [encL v, .int (sS ws k)] = pure (encL (goL ws v k)) := fun v hv k _ => by
    show WP.need ([encL v, D.int (sS ws k)].length = 2) (WP.nofnx (m_halved_like [encL v, .int (sS ws k)])) = _
    simp only [List.length_cons, List.length_nil, WP.need_true, like_step c3 h5 hn v hv k]
    exact WP.nofnx_pure (nof_L _)
  have hgd : ∀ v ∈ UL n, mixM (own_weights_like Φ0) ρ Φ0 4 [encL v] = pure (.bl (gdL v)) := fun v _ => by
    show WP.need ([encL v].length = 1) (WP.nofnx (te_4 [.val (encL v)])) = _
    simp only [List.length_cons, List.length_nil, WP.need_true, like_good]
    exact WP.nofnx_pure rfl
  have hb : ∀ v ∈ bs, v ∈ UL n := fun v h => by
    obtain ⟨x, hx, rfl⟩ := List.mem_map.mp h
    exact mem_UL.mpr ⟨Int.emod_nonneg _ (by omega), Int.emod_lt_of_pos _ (by omega), by simp [chain]⟩
  obtain ⟨A, told, run⟩ := wx key_L inj_L nof_L (bs := bs) (d := .lst (bs.map encL)) c3 (UL_len n hn) hb (UL_shut hn) (fun v h => gdL_zero ws v (UL_in v h)) (by simpa [bs] using v0) hgo hgd hy rfl
  refine ⟨A, told, ?_⟩
  have nw : D.nofws (fun _ => true) [dy, dv, nD n, .int c] = true := by simp [D.nofws, hy.nof, hv.nof, D.nofw]
  have lc := begs_run hy hv c3 h5 v5 v0 hc (t := 5) (te := eTup (aC (eVar 2) (aC (eCall 2 m_rest (aC (e2 subD (eVar 3) (eVar 5)) (aC (eVar 2) aN))) aN))) (ρ := [.val dy, .val dv, .val (nD n), .val (.int c), .no, .no]) (enc := fun x => encL (some ((n : Int), (c - x) % (n : Int)))) fun x hx => ⟨_, rfl, by
    have s := subD_i c x
    have b := v5 x hx
    have r := rest_eq (v := c - x) (n := (n : Int)) (by omega) (by omega) (by omega)
    simp only [eTup, eCall, NW.e2, aC, aN, eVar, List.set_cons_succ, List.set_cons_zero, List.getElem?_cons_zero, List.getElem?_cons_succ, WP.pure_bind, s, r, List.length_cons, List.length_nil, WP.need_true, need_sz, Nat.reduceAdd, Nat.reduceLeDiff]
    rfl⟩
  have mm : (vs.map fun x => encL (some ((n : Int), (c - x) % (n : Int)))) = bs.map encL := by rw [List.map_map]; rfl
  rw [mm] at lc
  have r' : M_explored_weights (mixM (own_weights_like Φ0) [.val dy, .val dv, .val (nD n), .val (.int c), .val (.lst (bs.map encL)), .no] Φ0) [dy, .lst (bs.map encL), .fn 5, .fn 4] = pure (oD A) := run
  have i1 : isiD ["int"] (nD n) = pure (.bl true) := rfl
  have i2' : isiD ["bool"] (nD n) = pure (.bl false) := rfl
  have l1 := ltD_i (n : Int) 1
  rw [decide_eq_false (by omega)] at l1
  have run2 : bodyD 6 (t_weights_like Φ0) [dy, dv, nD n, .int c] = pure (oD A) := by
    unfold bodyD
    rw [show startD 6 [dy, dv, nD n, .int c] = [.val dy, .val dv, .val (nD n), .val (.int c), .no, .no] from rfl]
    simp only [t_weights_like, sSeq, sIf, bOr, bNot, bV, bC, NW.e1, NW.e2, sNext, sSet, sRet, eCallH, eOfL, eLc, iSeq', aC, aN, eC, eVar, List.getElem?_cons_zero, List.getElem?_cons_succ, WP.pure_bind, i1, i2', l1, tst, Bool.not_true, Bool.false_eq_true, if_false, hv.seq, wipeD, List.set_cons_succ, List.set_cons_zero, lc, List.length_cons, List.length_nil, WP.need_true, r']
  unfold m_weights_like bodyM
  rw [WP.need_of nw]
  show WP.nofnx (bodyD 6 (t_weights_like Φ0) _) = _
  rw [run2, WP.nofnx_pure (nof_oD _)]
end
end K24
end
section
set_option Elab.async false
set_option autoImplicit false
set_option linter.all false
set_option maxRecDepth 100000
set_option maxHeartbeats 4000000
/-! k24, the plain law: the law's look at least automata -/
namespace K24
open PySem PySem.Spec PyProof.Rows L2 L2.NW L2.NW.Au
theorem mem_nat {row : List Nat} {v : Nat} : memD (row.map nD) (nD v) = decide (v ∈ row) := by
  unfold memD
  rw [List.any_map]
  induction row with
  | nil => rfl
  | cons x row ih =>
    rw [List.any_cons, ih]
    show (D.eq (nD x) (nD v) || _) = _
    rw [deq_nat]
    by_cases h : x = v
    · subst h; simp
    · have : ¬ v = x := fun e => h e.symm
      simp [h, this]
theorem deeps_nat (n : Nat) (row : List Nat) : D.deeps n (row.map nD) := D.deeps_iff.mpr fun d hd => by
  obtain ⟨x, _, rfl⟩ := List.mem_map.mp hd
  exact deep_int _ _
/-- the slots -/
abbrev eA (A : Lt) (s5 s6 s7 s8 s9 s10 s11 s12 : Sl) : Env' := [.val (lD A), .val (nD A.c), .val (mvD A.mv), .val (gdD A.gd), .val (rD A.bg), s5, s6, s7, s8, s9, s10, s11, s12, .no]
/-! ### the texts -/
def jOne : SW := sSelfIf 5 (bOwn 5 (inLO false) (eVar 6)) (fun ρ => WP.need (isOwnL ρ 5) (lCatO 5 (eOfL (lLst (aC (eVar 6) aN))) ρ))
def jNew : SW := sIf (bOwn 5 (inLO true) (eVar 8)) (sAppend 5 (eVar 8)) sNext
def jRow : SW := sSeq (sIf (bC geD (eVar 7) (eLenO 5)) sBreak sNext) (sFor (iSeq' (e2 ixD (eVar 2) (eOwnL 5 ixO (eVar 7)))) (.nm 8) jNew)
def jSign : SW := sSet 11 (eTup (aC (e2 ixD (eVar 12) (eVar 6)) (aC (eBI tupL (eLc (iSeq' (e2 ixD (eVar 2) (eVar 6))) (.nm 8) bT (e2 ixD (eVar 12) (eVar 8)) [8])) aN)))
def jState : SW := sSeq jSign (sSeq (sPutG 9 (eVar 11) (eGet2G 9 (eVar 11) (eVar 6))) (sAppend 10 (eOwnL 9 getG (eVar 11))))
def jLap : SW := sSeq (sParX 9 10 (fun _ => pure (.ok [])) (xOwn (lLst aN))) (sSeq (sFz 5 (sFor (iSeq' (eVar 5)) (.nm 6) jState)) (sSeq (sFz 10 (sIf (bC eqD (eVar 10) (eVar 12)) sBreak sNext)) (sFz 10 (sSet 12 (eVar 10)))))
def jPart : SW := sSet 12 (eOfL (eLc (iSeq' (eVar 3)) (.nm 13) bT (eBI NW.intD (aC (eVar 13) aN)) [13]))
def jNum : SW := sFz 5 (sIf (bC neD (eVar 5) (eOfL (lRg (eBI lenD (aC (eVar 3) aN))))) (sRet (eC (.bl false))) sNext)
theorem t_least_law_split : t_law_is_least = sSeq (sUnp (.cons (.nm 1) (.cons (.nm 2) (.cons (.nm 3) (.cons (.nm 4) .nil)))) (eVar 0)) (sSeq (sSetOwn 5 (lLst aN)) (sSeq (sFor (iSeq' (eVar 4)) (.nm 6) jOne)
    (sSeq (sFor (iOf rng1 (aC (eBI lenD (aC (eVar 3) aN)) aN)) (.nm 7) jRow) (sSeq jNum (sSeq jPart (sSeq (sFor (iOf rng1 (aC (eBI lenD (aC (eVar 3) aN)) aN)) (.nm 7) jLap)
    (sRet (e2 eqD (eLenSet (eVar 12)) (eBI lenD (aC (eVar 3) aN)))))))))) := rfl
theorem jOne_run {A : Lt} {row : List Nat} {v : Nat} (hz : row.length < 1000) {s7 s8 s9 s10 s11 s12 : Sl} : jOne (eA A (.own (row.map nD)) (.val (nD v)) s7 s8 s9 s10 s11 s12) = pure (.nx (eA A (.own ((visit row v).map nD)) (.val (nD v)) s7 s8 s9 s10 s11 s12)) := by
  have z : (row.map nD).length + 1 ≤ sizeLine := by rw [List.length_map]; exact szM (by omega)
  have o : isOwnL (eA A (.own (row.map nD)) (.val (nD v)) s7 s8 s9 s10 s11 s12) 5 := ⟨_, rfl⟩
  have m : (bOwn 5 (inLO false) (eVar 6)) (eA A (.own (row.map nD)) (.val (nD v)) s7 s8 s9 s10 s11 s12) = pure (decide (v ∈ row)) := by
    simp only [bOwn, eOwn, inLO, eVar, List.getElem?_cons_zero, List.getElem?_cons_succ, WP.pure_bind, WP.need_of (And.intro (deep_int 64 (v : Int)) (deeps_nat 63 row)), mem_nat, tst, Bool.false_eq_true, if_false]
  unfold jOne sSelfIf visit
  rw [WP.need_of o, m]
  by_cases h : v ∈ row
  · simp only [decide_eq_true h, WP.pure_bind, if_true, if_pos h]
  · simp only [decide_eq_false h, WP.pure_bind, Bool.false_eq_true, if_false, if_neg h, WP.need_of o, lCatO, eOfL, lLst, aC, aN, eVar, List.getElem?_cons_zero, List.getElem?_cons_succ, List.length_cons, List.length_nil, Nat.zero_add, WP.need_of sz1, WP.need_of z, List.set_cons_succ, List.set_cons_zero, List.map_append, List.map_cons, List.map_nil]
theorem jNew_run {A : Lt} {row : List Nat} {v : Nat} (hz : row.length < 1000) {s6 s7 s9 s10 s11 s12 : Sl} : jNew (eA A (.own (row.map nD)) s6 s7 (.val (nD v)) s9 s10 s11 s12) = pure (.nx (eA A (.own ((visit row v).map nD)) s6 s7 (.val (nD v)) s9 s10 s11 s12)) := by
  have z : (row.map nD).length < sizeLine := by rw [List.length_map]; exact Nat.lt_of_lt_of_le hz (szM (n := 1000) (by decide))
  have m : (bOwn 5 (inLO true) (eVar 8)) (eA A (.own (row.map nD)) s6 s7 (.val (nD v)) s9 s10 s11 s12) = pure (!decide (v ∈ row)) := by
    simp only [bOwn, eOwn, inLO, eVar, List.getElem?_cons_zero, List.getElem?_cons_succ, WP.pure_bind, WP.need_of (And.intro (deep_int 64 (v : Int)) (deeps_nat 63 row)), mem_nat, tst, if_true]
  unfold jNew visit
  simp only [sIf, m, WP.pure_bind]
  by_cases h : v ∈ row
  · simp only [decide_eq_true h, Bool.not_true, Bool.false_eq_true, if_false, if_pos h, sNext]
  · simp only [decide_eq_false h, Bool.not_false, if_true, if_neg h, sAppend, eVar, List.getElem?_cons_zero, List.getElem?_cons_succ, WP.pure_bind, WP.need_of z, List.set_cons_succ, List.set_cons_zero, List.map_append, List.map_cons, List.map_nil]
section
variable {A : Lt} (h : A.Ok) (hn : A.mv.length ≤ 63) (hc : A.c ≤ 10) (num : Ups A.c A.go A.bg (List.range A.mv.length))
include h hn hc num
theorem pre_lt {row : List Nat} (p : row <+: List.range A.mv.length) : row.length < 1000 := by
  have := p.length_le
  rw [List.length_range] at this
  omega
theorem begs_run2 {s7 s8 s9 s10 s11 s12 : Sl} : ∃ t6, forL (.nm 6) jOne (A.bg.map nD) (eA A (.own []) .no s7 s8 s9 s10 s11 s12) = pure (.nx (eA A (.own ((visits [] A.bg).map nD)) t6 s7 s8 s9 s10 s11 s12)) := by
  obtain ⟨ρ', q1, ⟨t6, q2⟩⟩ := forL_idx nD (fun i ρ => ∃ s6, ρ = eA A (.own ((visits [] (A.bg.take i)).map nD)) s6 s7 s8 s9 s10 s11 s12) A.bg (t := .nm 6) (tb := jOne) (ρ := eA A (.own []) .no s7 s8 s9 s10 s11 s12) ⟨.no, rfl⟩ (by
    rintro i x ρ hx ⟨s6, rfl⟩
    have p1 : visits [] (A.bg.take i) <+: List.range A.mv.length := by
      refine List.IsPrefix.trans ?_ num.come.pre
      have e := List.take_append_drop i A.bg
      have : visits [] A.bg = visits (visits [] (A.bg.take i)) (A.bg.drop i) := by rw [← visits_append, e]
      rw [this]
      exact visits_pre _ _
    refine ⟨_, _, rfl, .inl (jOne_run (pre_lt h hn hc num p1)), .val (nD x), ?_⟩
    rw [take_snoc hx, visits_append]
    rfl)
  rw [List.take_length] at q2
  subst q2
  exact ⟨t6, q1⟩
theorem row_run2 {row : List Nat} {v : Nat} {s6 s7 s8 s9 s10 s11 s12 : Sl} (pre : visits row (A.row v) <+: List.range A.mv.length) : ∃ t8, forL (.nm 8) jNew ((A.row v).map nD) (eA A (.own (row.map nD)) s6 s7 s8 s9 s10 s11 s12) = pure (.nx (eA A (.own ((visits row (A.row v)).map nD)) s6 s7 t8 s9 s10 s11 s12)) := by
  obtain ⟨ρ', q1, ⟨t8, q2⟩⟩ := forL_idx nD (fun i ρ => ∃ s8, ρ = eA A (.own ((visits row ((A.row v).take i)).map nD)) s6 s7 s8 s9 s10 s11 s12) (A.row v) (t := .nm 8) (tb := jNew) (ρ := eA A (.own (row.map nD)) s6 s7 s8 s9 s10 s11 s12) ⟨s8, rfl⟩ (by
    rintro i x ρ hx ⟨s8, rfl⟩
    have p1 : visits row ((A.row v).take i) <+: List.range A.mv.length := by
      refine List.IsPrefix.trans ?_ pre
      have e := List.take_append_drop i (A.row v)
      have : visits row (A.row v) = visits (visits row ((A.row v).take i)) ((A.row v).drop i) := by rw [← visits_append, e]
      rw [this]
      exact visits_pre _ _
    refine ⟨_, _, rfl, .inl (jNew_run (pre_lt h hn hc num p1)), .val (nD x), ?_⟩
    rw [take_snoc hx, visits_append]
    rfl)
  rw [List.take_length] at q2
  subst q2
  exact ⟨t8, q1⟩
theorem rows_run {s6 s9 s10 s11 s12 : Sl} : ∃ t7 t8, forL (.nm 7) jRow ((List.range A.mv.length).map nD) (eA A (.own ((visits [] A.bg).map nD)) s6 .no .no s9 s10 s11 s12) = pure (.nx (eA A (.own ((List.range A.mv.length).map nD)) s6 t7 t8 s9 s10 s11 s12)) := by
  obtain ⟨ρ', q1, ⟨row, t7, t8, cm, q2⟩⟩ := forL_idx nD (fun k ρ => ∃ row s7 s8, Come (nx A.go (2 ^ A.c)) row k (List.range A.mv.length) ∧ ρ = eA A (.own (row.map nD)) s6 s7 s8 s9 s10 s11 s12) (List.range A.mv.length) (t := .nm 7) (tb := jRow) (ρ := eA A (.own ((visits [] A.bg).map nD)) s6 .no .no s9 s10 s11 s12) ⟨_, .no, .no, num.come, rfl⟩ (by
    rintro i x ρ hx ⟨row, s7, s8, cm, rfl⟩
    obtain ⟨rfl, hi⟩ := range_at hx
    have more : ∃ v, row[i]? = some v ∧ Come (nx A.go (2 ^ A.c)) (visits row (nx A.go (2 ^ A.c) v)) (i + 1) (List.range A.mv.length) := by
      generalize hR : List.range A.mv.length = R at cm
      cases cm with
      | done => rw [← hR, List.length_range] at hi; exact absurd hi (Nat.lt_irrefl _)
      | more a t => exact ⟨_, a, t⟩
    obtain ⟨v, hv, t⟩ := more
    have hlt := (List.getElem?_eq_some_iff.mp hv).1
    have pre := t.pre
    have hv' : v < A.mv.length := List.mem_range.mp (((visits_pre _ _).trans pre).subset (List.mem_of_getElem? hv))
    rw [h.nx_row hv'] at t pre
    obtain ⟨t8, r1⟩ := row_run2 h hn hc num (s6 := s6) (s7 := .val (nD i)) (s8 := s8) (s9 := s9) (s10 := s10) (s11 := s11) (s12 := s12) pre
    have a1 : L2.atI (row.map nD) (i : Int) = some (nD v) := at_nD hv
    have ir := ix_row h hv'
    have g := geD_i (i : Int) ((row.map nD).length : Int)
    rw [decide_eq_false (by rw [List.length_map]; omega)] at g
    have w1 : (sIf (bC geD (eVar 7) (eLenO 5)) sBreak sNext) (eA A (.own (row.map nD)) s6 (.val (nD i)) s8 s9 s10 s11 s12) = pure (.nx (eA A (.own (row.map nD)) s6 (.val (nD i)) s8 s9 s10 s11 s12)) := by
      simp only [sIf, bC, NW.e2, eVar, eLenO, List.getElem?_cons_zero, List.getElem?_cons_succ, WP.pure_bind, g, tst, Bool.false_eq_true, if_false, sNext]
    have w2 : (iSeq' (e2 ixD (eVar 2) (eOwnL 5 ixO (eVar 7)))) (eA A (.own (row.map nD)) s6 (.val (nD i)) s8 s9 s10 s11 s12) = pure ((A.row v).map nD) := by
      simp [iSeq', NW.e2, eVar, eOwnL, ownAt, Sl.isOwn, eOwn, ixO, a1, ir, seq_tup]
    refine ⟨_, _, rfl, .inl (by
      show jRow (eA A (.own (row.map nD)) s6 (.val (nD i)) s8 s9 s10 s11 s12) = _
      rw [jRow, sSeq_nx w1, sFor_of w2, r1]), _, .val (nD i), t8, t, rfl⟩)
  rw [List.length_range] at cm
  have er : row = List.range A.mv.length := by
    have len : (List.range A.mv.length).length = A.mv.length := List.length_range
    generalize hR : List.range A.mv.length = R at cm len
    generalize hk : A.mv.length = k at cm len
    cases cm with
    | done => rfl
    | more a t =>
      have := (List.getElem?_eq_some_iff.mp a).1
      have := ((visits_pre _ _).trans t.pre).length_le
      omega
  subst er
  subst q2
  exact ⟨t7, t8, q1⟩
end
end K24
end
section
set_option Elab.async false
set_option autoImplicit false
set_option linter.all false
set_option maxRecDepth 100000
set_option maxHeartbeats 4000000
/-! k24, the plain law: the law's look at least automata: no two states alike -/
namespace K24
open PySem PySem.Spec PyProof.Rows L2 L2.NW L2.NW.Au
/-- a state's look: its part, and the parts of those it leads to -/
def sgD : List Nat → D
  | [] => .tup []
  | x :: l => .tup [nD x, rD l]
theorem key_sg (l : List Nat) : KeyD (sgD l) := by
  cases l with
  | nil => exact ⟨.tup [], by simp [sgD, D.nk, D.nks], by simp [NestedKey.depth, NestedKey.depthAll], fun x z => by cases z⟩
  | cons x l =>
    refine ⟨.tup [.num (x : Int), .tup (l.map fun i : Nat => .num (i : Int))], by simp [sgD, D.nk, D.nks, nks_row], ?_, fun x z => by cases z⟩
    have := depth_nums l
    simp [NestedKey.depth, NestedKey.depthAll] at this ⊢
    omega
theorem inj_sg (a b : List Nat) (h : sgD a = sgD b) : a = b := by
  cases a with
  | nil => cases b with
    | nil => rfl
    | cons y m => simp [sgD] at h
  | cons x l => cases b with
    | nil => simp [sgD] at h
    | cons y m =>
      simp only [sgD, D.tup.injEq, List.cons.injEq, and_true] at h
      rw [nD_inj _ _ h.1, map_nD_inj l m h.2]
def fsD (L : List (List Nat)) (i : Nat) : List (D × D) := (visits [] (L.take i)).map fun l => (sgD l, nD (ixOf L l))
theorem lk_fs {L : List (List Nat)} {i : Nat} {l : List Nat} : lkD (fsD L i) (sgD l) = if l ∈ L.take i then some (nD (ixOf L l)) else none := by
  have := lk_map key_sg inj_sg (fun l => nD (ixOf L l)) l (visits [] (L.take i))
  unfold fsD
  rw [this]
  simp only [mem_dedup]
theorem first_at {α : Type} [DecidableEq α] {L : List α} {i : Nat} {p : α} (h : L[i]? = some p) (n : p ∉ L.take i) : ixOf L p = i := by
  have a := at_idxOf (List.mem_of_getElem? h)
  rcases Nat.lt_trichotomy (ixOf L p) i with z | z | z
  · exact absurd (List.mem_iff_getElem?.mpr ⟨_, by rw [List.getElem?_take_of_lt z]; exact a⟩) n
  · exact z
  · obtain ⟨hi, e⟩ := List.getElem?_eq_some_iff.mp h
    have := List.not_of_lt_findIdx (p := fun x => x == p) (xs := L) (i := i) z
    simp [e] at this
/-- firsts behind one state more; its first -/
theorem fs_step {L : List (List Nat)} {i : Nat} {l : List Nat} (h : L[i]? = some l) : (lkD (fsD L i) (sgD l)).getD (nD i) = nD (ixOf L l) ∧ putD (fsD L i) (sgD l) (nD (ixOf L l)) = fsD L (i + 1) := by
  have vs : visits [] (L.take (i + 1)) = visit (visits [] (L.take i)) l := by rw [take_snoc h, visits_append]; rfl
  by_cases n : l ∈ L.take i
  · refine ⟨by rw [lk_fs, if_pos n]; rfl, ?_⟩
    unfold putD
    rw [lk_fs, if_pos n]
    simp only [Option.isSome_some, if_true]
    have same : fsD L (i + 1) = fsD L i := by unfold fsD; rw [vs, show visit (visits [] (L.take i)) l = visits [] (L.take i) from if_pos (mem_dedup.mpr n)]
    rw [same]
    refine (List.map_congr_left fun p hp => ?_).trans (List.map_id _)
    obtain ⟨m, hm, rfl⟩ := List.mem_map.mp hp
    by_cases e : (sgD m).nk = (sgD l).nk
    · rw [(nk_iff key_sg inj_sg).mp e, if_pos rfl]
      rfl
    · rw [if_neg e]; rfl
  · refine ⟨by rw [lk_fs, if_neg n, first_at h n]; rfl, ?_⟩
    unfold putD
    rw [lk_fs, if_neg n]
    simp only [Option.isSome_none, Bool.false_eq_true, if_false]
    unfold fsD
    rw [vs, show visit (visits [] (L.take i)) l = visits [] (L.take i) ++ [l] from if_neg fun z => n (mem_dedup.mp z), List.map_append, List.map_singleton]
/-- the next parts: for each state the first one with its look -/
def nextP (A : Lt) (K : List Nat) : List Nat := (looksOf A K).map (ixOf (looksOf A K))
theorem next_lap (A : Lt) (K : List Nat) : Lap A K (nextP A K) := by
  refine ⟨by simp [nextP, looksOf], fun i j hi hj => ?_⟩
  have at_ : ∀ i, i < A.mv.length → kAt (nextP A K) i = ixOf (looksOf A K) (lookOf A K i) := fun i hi => by
    refine kAt_some ?_
    unfold nextP looksOf
    rw [List.getElem?_map, List.getElem?_map, List.getElem?_range hi]
    rfl
  have mem : ∀ i, i < A.mv.length → lookOf A K i ∈ looksOf A K := fun i hi => List.mem_map.mpr ⟨i, List.mem_range.mpr hi, rfl⟩
  rw [at_ i hi, at_ j hj]
  refine ⟨fun e => ?_, fun e => by rw [e]⟩
  have a := at_idxOf (mem i hi)
  rw [e, at_idxOf (mem j hj)] at a
  exact (Option.some.inj a).symm
section
variable {A : Lt} (h : A.Ok) (hn : A.mv.length ≤ 63) (hc : A.c ≤ 10)
include h hn hc
theorem sign_run {K : List Nat} (hK : K.length = A.mv.length) {i : Nat} (hi : i < A.mv.length) {s5 s7 s8 s9 s10 s11 : Sl} : jSign (eA A s5 (.val (nD i)) s7 s8 s9 s10 s11 (.val (.lst (K.map nD)))) = pure (.nx (eA A s5 (.val (nD i)) s7 s8 s9 s10 (.val (sgD (lookOf A K i))) (.val (.lst (K.map nD))))) := by
  have r1 : ixD (.lst (K.map nD)) (nD i) = pure (nD (kAt K i)) := ix_lst (at_kAt (by omega))
  have r2 := ix_row h hi
  have r3 : lcL (.nm 8) bT (e2 ixD (eVar 12) (eVar 8)) (eA A s5 (.val (nD i)) s7 .no s9 s10 s11 (.val (.lst (K.map nD)))) ((A.row i).map nD) = pure (((A.row i).map (kAt K)).map nD) := by
    rw [List.map_map]
    exact lcL_enc nD (fun a => nD (kAt K a)) (A.row i) fun a ha => ⟨_, rfl, by
      have := ix_lst (at_kAt (K := K) (i := a) (by rw [hK]; exact h.lt _ (h.row_mem hi) a ha))
      simp only [NW.e2, eVar, List.getElem?_cons_zero, List.getElem?_cons_succ, List.set_cons_succ, List.set_cons_zero, WP.pure_bind, this]
      rfl⟩
  simp only [jSign, sSet, eTup, eBI, eLc, iSeq', NW.e2, aC, aN, eVar, List.getElem?_cons_zero, List.getElem?_cons_succ, List.set_cons_succ, List.set_cons_zero, WP.pure_bind, r1, r2, seq_tup, wipeD, r3, tupL, List.length_cons, List.length_nil, Nat.zero_add, Nat.reduceAdd, WP.need_of sz2]
  rfl
theorem state_run {K : List Nat} (hK : K.length = A.mv.length) {i : Nat} (hi : i < A.mv.length) {s5 s7 s8 s11 : Sl} : jState (eA A s5 (.val (nD i)) s7 s8 (.ok (fsD (looksOf A K) i)) (.own (((nextP A K).take i).map nD)) s11 (.val (.lst (K.map nD)))) =
    pure (.nx (eA A s5 (.val (nD i)) s7 s8 (.ok (fsD (looksOf A K) (i + 1))) (.own (((nextP A K).take (i + 1)).map nD)) (.val (sgD (lookOf A K i))) (.val (.lst (K.map nD))))) := by
  have at_ : (looksOf A K)[i]? = some (lookOf A K i) := by
    unfold looksOf
    rw [List.getElem?_map, List.getElem?_range hi]
    rfl
  have nx_ : (nextP A K)[i]? = some (ixOf (looksOf A K) (lookOf A K i)) := by
    unfold nextP
    rw [List.getElem?_map, at_]
    rfl
  obtain ⟨f1, f2⟩ := fs_step at_
  have hk := key_sg (lookOf A K i)
  have z1 : (fsD (looksOf A K) i).length < sizeLine := by
    have a : (fsD (looksOf A K) i).length ≤ ((looksOf A K).take i).length := by unfold fsD; rw [List.length_map]; exact dedup_le _
    have b : ((looksOf A K).take i).length ≤ i := by rw [List.length_take]; omega
    exact Nat.lt_of_lt_of_le (by omega) (szM (n := 1000) (by decide))
  have z2 : (((nextP A K).take i).map nD).length < sizeLine := by
    rw [List.length_map, List.length_take]
    exact Nat.lt_of_lt_of_le (by omega) (szM (n := 1000) (by decide))
  have g : lkD (fsD (looksOf A K) (i + 1)) (sgD (lookOf A K i)) = some (nD (ixOf (looksOf A K) (lookOf A K i))) := by
    rw [lk_fs, if_pos (by rw [take_snoc at_]; simp)]
  have w1 := sign_run h hn hc hK hi (s5 := s5) (s7 := s7) (s8 := s8) (s9 := .ok (fsD (looksOf A K) i)) (s10 := .own (((nextP A K).take i).map nD)) (s11 := s11)
  have w2 : (sPutG 9 (eVar 11) (eGet2G 9 (eVar 11) (eVar 6))) (eA A s5 (.val (nD i)) s7 s8 (.ok (fsD (looksOf A K) i)) (.own (((nextP A K).take i).map nD)) (.val (sgD (lookOf A K i))) (.val (.lst (K.map nD)))) = pure (.nx (eA A s5 (.val (nD i)) s7 s8 (.ok (fsD (looksOf A K) (i + 1))) (.own (((nextP A K).take i).map nD)) (.val (sgD (lookOf A K i))) (.val (.lst (K.map nD))))) := by
    have o : isOk (eA A s5 (.val (nD i)) s7 s8 (.ok (fsD (looksOf A K) i)) (.own (((nextP A K).take i).map nD)) (.val (sgD (lookOf A K i))) (.val (.lst (K.map nD)))) 9 := ⟨_, rfl⟩
    simp only [sPutG, eGet2G, WP.need_of o, eVar, List.getElem?_cons_zero, List.getElem?_cons_succ, WP.pure_bind, WP.need_of hk, f1, WP.need_of (And.intro hk z1), f2, List.set_cons_succ, List.set_cons_zero]
  have w3 : (sAppend 10 (eOwnL 9 getG (eVar 11))) (eA A s5 (.val (nD i)) s7 s8 (.ok (fsD (looksOf A K) (i + 1))) (.own (((nextP A K).take i).map nD)) (.val (sgD (lookOf A K i))) (.val (.lst (K.map nD)))) = pure (.nx (eA A s5 (.val (nD i)) s7 s8 (.ok (fsD (looksOf A K) (i + 1))) (.own (((nextP A K).take (i + 1)).map nD)) (.val (sgD (lookOf A K i))) (.val (.lst (K.map nD))))) := by
    simp only [sAppend, eOwnL, ownAt, Sl.isOwn, eOwn, getG, eVar, List.getElem?_cons_zero, List.getElem?_cons_succ, WP.pure_bind, WP.need_true, WP.need_of hk, g, WP.need_of z2, List.set_cons_succ, List.set_cons_zero]
    rw [take_snoc nx_, List.map_append, List.map_singleton]
  rw [jState, sSeq_nx w1, sSeq_nx w2, w3]
/-- a lap of parts is to come -/
def Jp (A : Lt) (i : Nat) (ρ : Env') : Prop := ∃ (K : List Nat) (s6 s7 s8 s9 s10 s11 : Sl), (Parts A K ∧ (Fine A K ∨ i < cls K)) ∧ ρ = eA A (.val (.lst ((List.range A.mv.length).map nD))) s6 s7 s8 s9 s10 s11 (.val (.lst (K.map nD)))
def JpE (A : Lt) (ρ : Env') : Prop := ∃ (K : List Nat) (s6 s7 s8 s9 s10 s11 : Sl), Fine A K ∧ ρ = eA A (.val (.lst ((List.range A.mv.length).map nD))) s6 s7 s8 s9 s10 s11 (.val (.lst (K.map nD)))
omit hn hc in
theorem fine_next {K K' : List Nat} (l : Lap A K K') (p : Parts A K) (f : Fine A K) : Fine A K' := by
  refine ⟨l.len, fun i j hi hj => ⟨fun e => ?_, (l.parts h p).same i j hi hj⟩⟩
  exact (f.2 i j hi hj).mp (List.cons.inj ((l.iff i j hi hj).mp e)).1
theorem lap_run {ρ : Env'} {x n : Nat} (i : Jp A n ρ) : Dr 0 (fun f => ∃ ρ2, ((f = .nx ρ2 ∨ f = .ct ρ2) ∧ Jp A (n + 1) ρ2) ∨ (f = .bk ρ2 ∧ JpE A ρ2)) (jLap (ρ.set 7 (.val (nD x)))) := by
  obtain ⟨K, s6, s7, s8, s9, s10, s11, ⟨pK, hm⟩, rfl⟩ := i
  have hK := pK.len
  have lap := next_lap A K
  have hK' := lap.len
  show Dr 0 _ (jLap (eA A (.val (.lst ((List.range A.mv.length).map nD))) s6 (.val (nD x)) s8 s9 s10 s11 (.val (.lst (K.map nD)))))
  have w1 : (sParX 9 10 (fun _ => pure (.ok [])) (xOwn (lLst aN))) (eA A (.val (.lst ((List.range A.mv.length).map nD))) s6 (.val (nD x)) s8 s9 s10 s11 (.val (.lst (K.map nD)))) = pure (.nx (eA A (.val (.lst ((List.range A.mv.length).map nD))) s6 (.val (nD x)) s8 (.ok []) (.own []) s11 (.val (.lst (K.map nD))))) := by
    simp only [sParX, xOwn, lLst, aN, WP.pure_bind, List.length_nil, Nat.zero_le, WP.need_true, List.set_cons_succ, List.set_cons_zero]
  obtain ⟨ρ', q1, ⟨t6, t11, q2⟩⟩ := forL_idx nD (fun i ρ => ∃ s6 s11, ρ = eA A (.val (.lst ((List.range A.mv.length).map nD))) s6 (.val (nD x)) s8 (.ok (fsD (looksOf A K) i)) (.own (((nextP A K).take i).map nD)) s11 (.val (.lst (K.map nD)))) (List.range A.mv.length) (t := .nm 6) (tb := jState) (ρ := eA A (.val (.lst ((List.range A.mv.length).map nD))) s6 (.val (nD x)) s8 (.ok []) (.own []) s11 (.val (.lst (K.map nD)))) ⟨s6, s11, rfl⟩ (by
    rintro i y ρ hx ⟨s6, s11, rfl⟩
    obtain ⟨rfl, hi⟩ := range_at hx
    exact ⟨_, _, rfl, .inl (state_run h hn hc hK hi (s11 := s11)), _, _, rfl⟩)
  rw [List.length_range, List.take_of_length_le (Nat.le_of_eq hK')] at q2
  subst q2
  have w2 : (sFz 5 (sFor (iSeq' (eVar 5)) (.nm 6) jState)) (eA A (.val (.lst ((List.range A.mv.length).map nD))) s6 (.val (nD x)) s8 (.ok []) (.own []) s11 (.val (.lst (K.map nD)))) = pure (.nx (eA A (.val (.lst ((List.range A.mv.length).map nD))) t6 (.val (nD x)) s8 (.ok (fsD (looksOf A K) A.mv.length)) (.own ((nextP A K).map nD)) t11 (.val (.lst (K.map nD))))) := by
    have w0 : (iSeq' (eVar 5)) (eA A (.val (.lst ((List.range A.mv.length).map nD))) s6 (.val (nD x)) s8 (.ok []) (.own []) s11 (.val (.lst (K.map nD)))) = pure ((List.range A.mv.length).map nD) := rfl
    show sFor (iSeq' (eVar 5)) (.nm 6) jState (eA A (.val (.lst ((List.range A.mv.length).map nD))) s6 (.val (nD x)) s8 (.ok []) (.own []) s11 (.val (.lst (K.map nD)))) = _
    rw [sFor_of w0, q1]
  have eq : eqD (.lst ((nextP A K).map nD)) (.lst (K.map nD)) = pure (.bl (decide (nextP A K = K))) := by
    unfold eqD
    rw [WP.need_of (And.intro (deep_lst fun _ _ => deep_int _ _) (deep_lst fun _ _ => deep_int _ _)), deq_lst deq_nat]
  unfold jLap
  refine dr_sq0 w1 (dr_sq0 w2 ?_)
  by_cases e : nextP A K = K
  · rw [decide_eq_true e] at eq
    have w3 : (sFz 10 (sIf (bC eqD (eVar 10) (eVar 12)) sBreak sNext)) (eA A (.val (.lst ((List.range A.mv.length).map nD))) t6 (.val (nD x)) s8 (.ok (fsD (looksOf A K) A.mv.length)) (.own ((nextP A K).map nD)) t11 (.val (.lst (K.map nD)))) = pure (.bk (eA A (.val (.lst ((List.range A.mv.length).map nD))) t6 (.val (nD x)) s8 (.ok (fsD (looksOf A K) A.mv.length)) (.val (.lst ((nextP A K).map nD))) t11 (.val (.lst (K.map nD))))) := by
      simp only [sFz, NW.frz, sIf, bC, NW.e2, eVar, List.getElem?_cons_zero, List.getElem?_cons_succ, List.set_cons_succ, List.set_cons_zero, WP.pure_bind, eq, tst, if_true, sBreak]
    simp only [sSeq, w3, WP.pure_bind]
    exact .pure ⟨_, .inr ⟨rfl, K, _, _, _, _, _, _, by have := lap.done h pK (by rw [e]); rwa [e] at this, rfl⟩⟩
  · rw [decide_eq_false e] at eq
    have w3 : (sFz 10 (sIf (bC eqD (eVar 10) (eVar 12)) sBreak sNext)) (eA A (.val (.lst ((List.range A.mv.length).map nD))) t6 (.val (nD x)) s8 (.ok (fsD (looksOf A K) A.mv.length)) (.own ((nextP A K).map nD)) t11 (.val (.lst (K.map nD)))) = pure (.nx (eA A (.val (.lst ((List.range A.mv.length).map nD))) t6 (.val (nD x)) s8 (.ok (fsD (looksOf A K) A.mv.length)) (.val (.lst ((nextP A K).map nD))) t11 (.val (.lst (K.map nD))))) := by
      simp only [sFz, NW.frz, sIf, bC, NW.e2, eVar, List.getElem?_cons_zero, List.getElem?_cons_succ, List.set_cons_succ, List.set_cons_zero, WP.pure_bind, eq, tst, Bool.false_eq_true, if_false, sNext]
    have w4 : (sFz 10 (sSet 12 (eVar 10))) (eA A (.val (.lst ((List.range A.mv.length).map nD))) t6 (.val (nD x)) s8 (.ok (fsD (looksOf A K) A.mv.length)) (.val (.lst ((nextP A K).map nD))) t11 (.val (.lst (K.map nD)))) = pure (.nx (eA A (.val (.lst ((List.range A.mv.length).map nD))) t6 (.val (nD x)) s8 (.ok (fsD (looksOf A K) A.mv.length)) (.val (.lst ((nextP A K).map nD))) t11 (.val (.lst ((nextP A K).map nD))))) := by
      simp only [sFz, NW.frz, sSet, eVar, List.getElem?_cons_zero, List.getElem?_cons_succ, List.set_cons_succ, List.set_cons_zero, WP.pure_bind]
    refine dr_sq0 w3 ?_
    rw [w4]
    refine .pure ⟨_, .inl ⟨.inl rfl, nextP A K, _, _, _, _, _, _, ⟨lap.parts h pK, ?_⟩, rfl⟩⟩
    rcases hm with f | lt
    · exact .inl (fine_next h lap pK f)
    · have le := lap.le hK
      by_cases c : cls (nextP A K) = cls K
      · exact .inl (lap.done h pK c)
      · exact .inr (by omega)
/-- a least automaton is told to be one -/
theorem is_least_dr (num : Ups A.c A.go A.bg (List.range A.mv.length)) (inj : ∀ i j, i < A.mv.length → j < A.mv.length → A.beh i = A.beh j → i = j) : Dr 0 (fun d => d = .bl true) (m_law_is_least [lD A]) := by
  refine dr_body (ρ := [.val (lD A), .no, .no, .no, .no, .no, .no, .no, .no, .no, .no, .no, .no, .no]) rfl ?_
  rw [t_least_law_split]
  have w1 : (sUnp (.cons (.nm 1) (.cons (.nm 2) (.cons (.nm 3) (.cons (.nm 4) .nil)))) (eVar 0)) [.val (lD A), .no, .no, .no, .no, .no, .no, .no, .no, .no, .no, .no, .no, .no] = pure (.nx (eA A .no .no .no .no .no .no .no .no)) := rfl
  have w2 : (sSetOwn 5 (lLst aN)) (eA A .no .no .no .no .no .no .no .no) = pure (.nx (eA A (.own []) .no .no .no .no .no .no .no)) := by simp [sSetOwn, lLst, aN]
  obtain ⟨t6, q3⟩ := begs_run2 h hn hc num (s7 := .no) (s8 := .no) (s9 := .no) (s10 := .no) (s11 := .no) (s12 := .no)
  have w3 : (iSeq' (eVar 4)) (eA A (.own []) .no .no .no .no .no .no .no) = pure (A.bg.map nD) := rfl
  obtain ⟨t7, t8, q4⟩ := rows_run h hn hc num (s6 := t6) (s9 := .no) (s10 := .no) (s11 := .no) (s12 := .no)
  have rn := rng_n (n := A.mv.length) (by omega)
  have gl : lenD [gdD A.gd] = pure (nD A.mv.length) := by simp [lenD, h.gl]
  have w4 : ∀ {s5 s6 s7 s8 s9 s10 s11 s12 : Sl}, (iOf rng1 (aC (eBI lenD (aC (eVar 3) aN)) aN)) (eA A s5 s6 s7 s8 s9 s10 s11 s12) = pure ((List.range A.mv.length).map nD) := fun {s5 s6 s7 s8 s9 s10 s11 s12} => by
    simp only [iOf, eBI, aC, aN, eVar, List.getElem?_cons_zero, List.getElem?_cons_succ, WP.pure_bind, gl, rn]
  have w5 : jNum (eA A (.own ((List.range A.mv.length).map nD)) t6 t7 t8 .no .no .no .no) = pure (.nx (eA A (.val (.lst ((List.range A.mv.length).map nD))) t6 t7 t8 .no .no .no .no)) := by
    have c : (-(2 ^ 62) : Int) ≤ (A.mv.length : Int) ∧ (A.mv.length : Int) ≤ 16777216 := ⟨by omega, by omega⟩
    have d2 : D.deep 64 (.lst ((List.range A.mv.length).map nD)) := deep_lst fun _ _ => deep_int _ _
    have d3 : D.eq (.lst ((List.range A.mv.length).map nD)) (.lst ((List.range A.mv.length).map nD)) = true := by rw [deq_lst deq_nat]; simp
    simp only [jNum, sFz, NW.frz, sIf, bC, NW.e2, eVar, eOfL, lRg, eBI, aC, aN, gl, List.getElem?_cons_succ, List.getElem?_cons_zero, List.set_cons_succ, List.set_cons_zero, WP.pure_bind, Int.toNat_natCast, rangeL_nat]
    rw [WP.need_of c]
    simp only [WP.pure_bind, neD, WP.need_of (And.intro d2 d2), d3, tst, Bool.not_true, Bool.false_eq_true, if_false, sNext]
  have w6 : jPart (eA A (.val (.lst ((List.range A.mv.length).map nD))) t6 t7 t8 .no .no .no .no) = pure (.nx (eA A (.val (.lst ((List.range A.mv.length).map nD))) t6 t7 t8 .no .no .no (.val (.lst ((goods A).map nD))))) := by
    have lc := lcL_enc (t := .nm 13) (te := eBI NW.intD (aC (eVar 13) aN)) (ρ := eA A (.val (.lst ((List.range A.mv.length).map nD))) t6 t7 t8 .no .no .no .no) D.bl (fun b => nD b.toNat) A.gd fun b _ => ⟨_, rfl, by cases b <;> rfl⟩
    have mm : (A.gd.map fun b => nD b.toNat) = (goods A).map nD := by unfold goods; rw [List.map_map]; rfl
    rw [mm] at lc
    simp only [jPart, sSet, eOfL, eLc, iSeq', eVar, List.getElem?_cons_succ, List.getElem?_cons_zero, List.set_cons_succ, List.set_cons_zero, WP.pure_bind, seq_tup, wipeD, lc]
  refine dr_sq0 w1 (dr_sq0 w2 (dr_sq0 ((sFor_of w3).trans q3) (dr_sq0 ((sFor_of w4).trans q4) (dr_sq0 w5 (dr_sq0 w6 ?_)))))
  have gp := goods_parts h
  have n0 : 0 < A.mv.length := by
    have a := h.b0
    cases hb : A.bg with
    | nil => rw [hb] at a; simp at a
    | cons x l => exact Nat.lt_of_le_of_lt (Nat.zero_le _) (h.bl x (by rw [hb]; exact List.mem_cons_self ..))
  have loop := nx_brkI (c := 0) (t := .nm 7) (tb := jLap) nD (Jp A) (JpE A) (List.range A.mv.length) (ρ := eA A (.val (.lst ((List.range A.mv.length).map nD))) t6 t7 t8 .no .no .no (.val (.lst ((goods A).map nD)))) ⟨goods A, _, _, _, _, _, _, ⟨gp, .inr (cls_pos n0 gp.len)⟩, rfl⟩ (fun ρ ⟨K, s6, s7, s8, s9, s10, s11, ⟨p, f⟩, e⟩ => ⟨K, s6, s7, s8, s9, s10, s11, f.resolve_right fun z => by
      have := dedup_le K
      rw [List.length_range] at z
      have l := p.len
      unfold cls at z
      omega, e⟩) fun i x ρ hx hi => ⟨_, rfl, lap_run h hn hc hi⟩
  have loop' : Nx (0 * (List.range A.mv.length).length) (JpE A) (sFor (iOf rng1 (aC (eBI lenD (aC (eVar 3) aN)) aN)) (.nm 7) jLap (eA A (.val (.lst ((List.range A.mv.length).map nD))) t6 t7 t8 .no .no .no (.val (.lst ((goods A).map nD))))) := by
    rw [sFor_of w4]
    exact loop
  refine (dr_sq (k := 0) loop' fun ρ hE => ?_).mono (by omega) fun _ z => z
  obtain ⟨K, s6, s7, s8, s9, s10, s11, f, e⟩ := hE
  subst e
  have nd : K.Nodup := by
    rw [eq_map_kAt f.1]
    refine finer_nodup (g := id) (fun i hi j hj e => ?_) (by rw [List.map_id]; exact List.nodup_range)
    exact inj i j (List.mem_range.mp hi) (List.mem_range.mp hj) ((f.2 i j (List.mem_range.mp hi) (List.mem_range.mp hj)).mp e)
  have nd2 : (K.map fun i : Nat => (i : Int)).Nodup := finer_nodup (g := id) (fun i _ j _ e => (by omega : i = j)) (by rw [List.map_id]; exact nd)
  have ls : (eLenSet (eVar 12)) (eA A (.val (.lst ((List.range A.mv.length).map nD))) s6 s7 s8 s9 s10 s11 (.val (.lst (K.map nD)))) = pure (nD A.mv.length) := by
    have n := WP.need_of (c := (K.map fun i : Nat => (i : Int)).length < 64 ∧ (K.map fun i : Nat => (i : Int)).Nodup) ⟨by rw [List.length_map, f.1]; omega, nd2⟩ (pure (D.int (((K.map fun i : Nat => (i : Int)).length : Nat) : Int)))
    simp only [eLenSet, eVar, List.getElem?_cons_succ, List.getElem?_cons_zero, WP.pure_bind, ints_nD, n]
    rw [List.length_map, f.1]
  have eq := eqD_i (A.mv.length : Int) (A.mv.length : Int)
  rw [decide_eq_true rfl] at eq
  have fin : (sRet (e2 eqD (eLenSet (eVar 12)) (eBI lenD (aC (eVar 3) aN)))) (eA A (.val (.lst ((List.range A.mv.length).map nD))) s6 s7 s8 s9 s10 s11 (.val (.lst (K.map nD)))) = pure (.rt (.bl true)) := by
    have g3 : (eBI lenD (aC (eVar 3) aN)) (eA A (.val (.lst ((List.range A.mv.length).map nD))) s6 s7 s8 s9 s10 s11 (.val (.lst (K.map nD)))) = pure (nD A.mv.length) := by
      simp only [eBI, aC, aN, eVar, List.getElem?_cons_succ, List.getElem?_cons_zero, WP.pure_bind, gl]
    simp only [sRet, NW.e2, ls, g3, WP.pure_bind, eq]
  rw [fin]
  exact .pure ⟨_, rfl, rfl⟩
end
end K24
end
section
set_option Elab.async false
set_option autoImplicit false
set_option linter.all false
set_option maxRecDepth 100000
set_option maxHeartbeats 4000000
/-! k24, the plain law: rows, weights, what fits -/
namespace K24
open PySem PySem.Spec PyProof.Rows L2 L2.NW L2.NW.Au
/-! ### all rows below -/
def rowsB (m : Nat) : Nat → List (List Nat)
  | 0 => [[]]
  | i + 1 => (rowsB m i).flatMap fun r => (List.range m).map fun x => r ++ [x]
theorem rowsB_len (m : Nat) : ∀ i, (rowsB m i).length = m ^ i
  | 0 => rfl
  | i + 1 => by
    have : ∀ L : List (List Nat), (L.flatMap fun r => (List.range m).map fun x => r ++ [x]).length = L.length * m := fun L => by
      induction L with
      | nil => simp
      | cons r L ih => rw [List.flatMap_cons, List.length_append, ih, List.length_map, List.length_range, List.length_cons, Nat.succ_mul, Nat.add_comm]
    rw [rowsB, this, rowsB_len m i, Nat.pow_succ]
theorem rowsB_mem (m : Nat) : ∀ i, ∀ r ∈ rowsB m i, r.length = i ∧ ∀ x ∈ r, x < m
  | 0, r, h => by
    rw [rowsB, List.mem_singleton] at h
    subst h
    exact ⟨rfl, fun x z => nomatch z⟩
  | i + 1, r, h => by
    rw [rowsB, List.mem_flatMap] at h
    obtain ⟨q, hq, h⟩ := h
    obtain ⟨x, hx, rfl⟩ := List.mem_map.mp h
    obtain ⟨a, b⟩ := rowsB_mem m i q hq
    refine ⟨by simp [a], fun y hy => ?_⟩
    rcases List.mem_append.mp hy with z | z
    · exact b y z
    · rw [List.mem_singleton.mp z]; exact List.mem_range.mp hx
def bCat : SW := sSetOwn 4 (fun ρ => WP.need (isOwnL ρ 4) (lCatO 4 (eOfL (eLc (iOf rng1 (aC (eVar 1) aN)) (.nm 6) bT (e2 addD (eVar 5) (eTup (aC (eVar 6) aN))) [6])) ρ))
def bCtr : SW := sSeq (sSetOwn 4 (lLst aN)) (sSeq (sFz 2 (sFor (iSeq' (eVar 2)) (.nm 5) bCat)) (sMove 2 4))
theorem t_below_split : t_law_rows_below = sSeq (sSetOwn 2 (lLst (aC (eTup aN) aN))) (sSeq (sFor (iOf rng1 (aC (eVar 0) aN)) (.nm 3) bCtr) (fun ρ => pure (.nx ρ))) := rfl
section
variable {c m : Nat} (hm : m ≤ 100)
include hm
theorem bCat_run {L : List (List Nat)} {r : List Nat} (hL : L.length + m ≤ 10000) (hr : r.length ≤ 100) {s0 s2 s3 s6 : Sl} : bCat [s0, .val (nD m), s2, s3, .own (L.map rD), .val (rD r), s6] = pure (.nx [s0, .val (nD m), s2, s3, .own ((L ++ (List.range m).map fun x => r ++ [x]).map rD), .val (rD r), s6]) := by
  have rn := rng_n (n := m) (by omega)
  have lc := lcL_enc (t := .nm 6) (te := e2 addD (eVar 5) (eTup (aC (eVar 6) aN))) (ρ := [s0, .val (nD m), s2, s3, .own (L.map rD), .val (rD r), .no]) nD (fun x => rD (r ++ [x])) (List.range m) fun x _ => ⟨_, rfl, by
    have z : (r.map nD).length + 1 ≤ 1000000 := by rw [List.length_map]; omega
    simp only [NW.e2, eTup, aC, aN, eVar, List.getElem?_cons_zero, List.getElem?_cons_succ, List.set_cons_succ, List.set_cons_zero, WP.pure_bind, List.length_cons, List.length_nil, Nat.zero_add, WP.need_of sz1, addD, need_sz z]
    show WP.noex (pure (D.tup (r.map nD ++ [nD x]))) = pure (D.tup ((r ++ [x]).map nD))
    rw [List.map_append]
    rfl⟩
  have mm : ((List.range m).map fun x => rD (r ++ [x])) = ((List.range m).map fun x => r ++ [x]).map rD := by rw [List.map_map]; rfl
  rw [mm] at lc
  have o : isOwnL [s0, .val (nD m), s2, s3, .own (L.map rD), .val (rD r), s6] 4 := ⟨_, rfl⟩
  have z : (L.map rD).length + (((List.range m).map fun x => r ++ [x]).map rD).length ≤ sizeLine := by simp only [List.length_map, List.length_range]; exact szM (by omega)
  simp only [bCat, sSetOwn, WP.need_of o, lCatO, eOfL, eLc, iOf, aC, aN, eVar, List.getElem?_cons_zero, List.getElem?_cons_succ, WP.pure_bind, rn, wipeD, List.set_cons_succ, List.set_cons_zero, lc, WP.need_of z]
  rw [List.map_append]
theorem bCtr_run {i : Nat} (hi : i ≤ 10) (hz : m ^ (i + 1) ≤ 1000) (hz2 : m ^ i ≤ 1000) {s0 s3 s4 s5 s6 : Sl} : ∃ t5, bCtr [s0, .val (nD m), .own ((rowsB m i).map rD), s3, s4, s5, s6] = pure (.nx [s0, .val (nD m), .own ((rowsB m (i + 1)).map rD), s3, .no, t5, s6]) := by
  obtain ⟨ρ', q1, ⟨t5, q2⟩⟩ := forL_idx rD (fun j ρ => ∃ s5, ρ = [s0, .val (nD m), .val (.lst ((rowsB m i).map rD)), s3, .own ((((rowsB m i).take j).flatMap fun r => (List.range m).map fun x => r ++ [x]).map rD), s5, s6]) (rowsB m i) (t := .nm 5) (tb := bCat) (ρ := [s0, .val (nD m), .val (.lst ((rowsB m i).map rD)), s3, .own [], s5, s6]) ⟨s5, rfl⟩ (by
    rintro j r ρ hx ⟨s5, rfl⟩
    have hr := rowsB_mem m i r (List.mem_of_getElem? hx)
    have hj := (List.getElem?_eq_some_iff.mp hx).1
    rw [rowsB_len] at hj
    have bd : (((rowsB m i).take j).flatMap fun r => (List.range m).map fun x => r ++ [x]).length ≤ 1000 := by
      have e : ((rowsB m i).flatMap fun r => (List.range m).map fun x => r ++ [x]).length = m ^ (i + 1) := rowsB_len m (i + 1)
      have s : (rowsB m i).flatMap (fun r => (List.range m).map fun x => r ++ [x]) = (((rowsB m i).take j).flatMap fun r => (List.range m).map fun x => r ++ [x]) ++ (((rowsB m i).drop j).flatMap fun r => (List.range m).map fun x => r ++ [x]) := by
        rw [← List.flatMap_append, List.take_append_drop]
      rw [s, List.length_append] at e
      omega
    refine ⟨_, _, rfl, .inl (bCat_run hm (by omega) (by omega)), .val (rD r), ?_⟩
    rw [take_snoc hx, List.flatMap_append, List.flatMap_singleton])
  rw [List.take_length] at q2
  subst q2
  refine ⟨t5, ?_⟩
  have w1 : sSetOwn 4 (lLst aN) [s0, .val (nD m), .own ((rowsB m i).map rD), s3, s4, s5, s6] = pure (.nx [s0, .val (nD m), .own ((rowsB m i).map rD), s3, .own [], s5, s6]) := by simp [sSetOwn, lLst, aN]
  have w2 : (sFz 2 (sFor (iSeq' (eVar 2)) (.nm 5) bCat)) [s0, .val (nD m), .own ((rowsB m i).map rD), s3, .own [], s5, s6] = pure (.nx [s0, .val (nD m), .val (.lst ((rowsB m i).map rD)), s3, .own ((rowsB m (i + 1)).map rD), t5, s6]) := by
    show sFor (iSeq' (eVar 2)) (.nm 5) bCat [s0, .val (nD m), .val (.lst ((rowsB m i).map rD)), s3, .own [], s5, s6] = _
    rw [sFor_of (xs := (rowsB m i).map rD) rfl, q1]
    rfl
  rw [bCtr, sSeq_nx w1, sSeq_nx w2]
  rfl
theorem below_rows_eq (hc : c ≤ 10) (hz : ∀ i, i ≤ c → m ^ i ≤ 1000) : m_law_rows_below [nD c, nD m] = pure ((rowsB m c).map rD) := by
  have rn := rng_n (n := c) (by omega)
  obtain ⟨ρ', q1, ⟨t3, t4, t5, q2⟩⟩ := forL_idx nD (fun i ρ => ∃ s3 s4 s5, ρ = [.val (nD c), .val (nD m), .own ((rowsB m i).map rD), s3, s4, s5, .no]) (List.range c) (t := .nm 3) (tb := bCtr) (ρ := [.val (nD c), .val (nD m), .own [rD []], .no, .no, .no, .no]) ⟨.no, .no, .no, rfl⟩ (by
    rintro i x ρ hx ⟨s3, s4, s5, rfl⟩
    obtain ⟨rfl, hi⟩ := range_at hx
    obtain ⟨t5, r⟩ := bCtr_run hm (i := i) (by omega) (hz (i + 1) (by omega)) (hz i (by omega)) (s0 := .val (nD c)) (s3 := .val (nD i)) (s4 := s4) (s5 := s5) (s6 := .no)
    exact ⟨_, _, rfl, .inl r, _, _, _, rfl⟩)
  rw [List.length_range] at q2
  subst q2
  have w1 : sSetOwn 2 (lLst (aC (eTup aN) aN)) (startD 7 [nD c, nD m]) = pure (.nx [.val (nD c), .val (nD m), .own [rD []], .no, .no, .no, .no]) := by
    rw [show startD 7 [nD c, nD m] = [.val (nD c), .val (nD m), .no, .no, .no, .no, .no] from rfl]
    simp only [sSetOwn, lLst, eTup, aC, aN, WP.pure_bind, List.length_nil, List.length_cons, Nat.zero_add, Nat.zero_le, WP.need_true, WP.need_of sz1, List.set_cons_succ, List.set_cons_zero]
    rfl
  have w2 : (iOf rng1 (aC (eVar 0) aN)) [.val (nD c), .val (nD m), .own [rD []], .no, .no, .no, .no] = pure ((List.range c).map nD) := by
    simp only [iOf, aC, aN, eVar, List.getElem?_cons_zero, WP.pure_bind, rn]
  unfold m_law_rows_below bodyL
  rw [t_below_split, sSeq_nx w1, sSeq_nx ((sFor_of w2).trans q1)]
  rfl
end
/-! ### a configuration's weight -/
theorem zip_dot : ∀ (ws : List Int) (xs : List Nat), ((ws.zip xs).map fun p => p.1 * (p.2 : Int)).sum = dot ws xs
  | [], xs => by cases xs <;> rfl
  | w :: ws, [] => rfl
  | w :: ws, x :: xs => by simp only [List.zip_cons_cons, List.map_cons, List.sum_cons, zip_dot ws xs, dot]
theorem weight_eq {dy dv : D} {ws vs : List Int} (hy : IsR dy ws) (hv : IsR dv vs) (h5 : ∀ w ∈ ws, -5 ≤ w ∧ w ≤ 5) {loc : Nat} (hl : loc < vs.length) (xs : List Nat) : m_law_weight [dy, dv, cD loc xs] = pure (.int (kI vs loc + dot ws xs)) := by
  have q0 : ixD (cD loc xs) (.int 0) = pure (nD loc) := rfl
  have q1 : ixD (cD loc xs) (.int 1) = pure (rD xs) := rfl
  have at_ : vs[loc]? = some (kI vs loc) := by unfold kI; rw [List.getElem?_eq_getElem hl]; rfl
  have r0 : ixD dv (nD loc) = pure (.int (kI vs loc)) := by
    have := at_enc (enc := D.int) at_
    rcases hv with rfl | rfl <;> simp only [ixD, this]
  have zz : zipL (ws.map D.int) (xs.map nD) = (ws.zip xs).map fun p => D.tup [.int p.1, nD p.2] := by
    have : ∀ (ws : List Int) (xs : List Nat), zipL (ws.map D.int) (xs.map nD) = (ws.zip xs).map fun p => D.tup [.int p.1, nD p.2] := fun ws => by
      induction ws with
      | nil => intro xs; cases xs <;> rfl
      | cons w ws ih => intro xs; cases xs with
        | nil => rfl
        | cons x xs =>
          show D.tup [.int w, nD x] :: zipL (ws.map D.int) (xs.map nD) = _
          rw [ih xs, List.zip_cons_cons, List.map_cons]
    exact this ws xs
  have lc := lcL_enc (t := .cons (.nm 3) (.cons (.nm 4) .nil)) (te := e2 mulI (eVar 3) (eVar 4)) (ρ := [.val dy, .val dv, .val (cD loc xs), .no, .no]) (fun p : Int × Nat => D.tup [.int p.1, nD p.2]) (fun p => .int (p.1 * (p.2 : Int))) (ws.zip xs) fun p hp => ⟨_, rfl, by
    have b := h5 p.1 (List.of_mem_zip (a := p.1) (b := p.2) hp).1
    have m := mulI_i (a := p.1) (b := (p.2 : Int)) (by omega)
    simp only [NW.e2, eVar, List.getElem?_cons_zero, List.getElem?_cons_succ, List.set_cons_succ, List.set_cons_zero, WP.pure_bind, m]
    rfl⟩
  have sm := sumD_i ((ws.zip xs).map fun p => p.1 * (p.2 : Int))
  rw [List.map_map, zip_dot] at sm
  have ad := addD_i (kI vs loc) (dot ws xs)
  unfold m_law_weight bodyD
  rw [show startD 5 [dy, dv, cD loc xs] = [.val dy, .val dv, .val (cD loc xs), .no, .no] from rfl]
  simp only [t_law_weight, sRet, NW.e2, eBI, eLc, iOf, aC, aN, eVar, eC, List.getElem?_cons_zero, List.getElem?_cons_succ, WP.pure_bind, q0, q1, r0, zip2, hy.seq, seq_tup, zz, wipeD, List.set_cons_succ, List.set_cons_zero, lc]
  rw [show (fun p : Int × Nat => D.int (p.1 * (p.2 : Int))) = D.int ∘ fun p => p.1 * (p.2 : Int) from rfl, sm]
  simp only [WP.pure_bind, ad]
end K24
end
section
set_option Elab.async false
set_option autoImplicit false
set_option linter.all false
set_option maxRecDepth 100000
set_option maxHeartbeats 4000000
/-! k24, the plain law: what fits -/
namespace K24
open PySem PySem.Spec PyProof.Rows L2 L2.NW L2.NW.Au
theorem neD_i (a b : Int) : neD (.int a) (.int b) = pure (.bl (!decide (a = b))) := by
  unfold neD
  rw [WP.need_of (And.intro (deep_int _ _) (deep_int _ _)), deq_int]
theorem neD_b (a b : Bool) : neD (.bl a) (.bl b) = pure (.bl (!decide (a = b))) := by
  unfold neD
  rw [WP.need_of (And.intro (deep_bl _ _) (deep_bl _ _)), deq_bl]
theorem neD_nil : neD (.lst []) (.lst []) = pure (.bl false) := by
  unfold neD
  rw [WP.need_of (And.intro (by simp [D.deep, D.deeps]) (by simp [D.deep, D.deeps]))]
  rfl
/-! ### the texts -/
def vLeast : BW := bOr (bC neD (eVar 6) (eBI lenD (aC (eVar 2) aN))) (bOr (bC neD (eBI lenD (aC (eVar 7) aN)) (eBI lenD (aC (eVar 3) aN))) (bNot (bV (eCall 1 m_law_is_least (aC (eVar 5) aN)))))
def vBool : BW := bC neD (eOfL (eLc (iSeq' (eVar 12)) (.nm 14) (bNot (bV (e1 (isiD ["bool"]) (eVar 14)))) (eC (.int 1)) [14])) (eOfL (lLst aN))
def vZero : BW := bC neD (eOfL (eLc (iOf rng1 (aC (eBI lenD (aC (eVar 12) aN)) aN)) (.nm 15) (bC neD (e2 ixD (eVar 12) (eVar 15)) (e2 ixD (eVar 12) (e2 ixD (e2 ixD (eVar 13) (eVar 15)) (eC (.int 0))))) (eC (.int 1)) [15])) (eOfL (lLst aN))
def vRows : SW := sSetOwn 8 (lCall 2 m_law_rows_below (aC (eBI lenD (aC (eVar 2) aN)) (aC (e2 ixD (eOfL (lLst (aC (eC (.int 1)) (aC (eC (.int 24)) (aC (eC (.int 6)) (aC (eC (.int 4)) aN)))))) (eBI lenD (aC (eVar 2) aN))) aN)))
def vMore : SW := sAppend 8 (eBI tupL (eLc (iSeq' (eVar 2)) (.nm 16) bT (eCall 2 drawM (aC (eVar 0) (aC (eC (.int 1000)) aN))) [16]))
def vRow (Φ : Nat → Mir) : SW := sIf (bC neD (eCall 2 m_law_is_in (aC (eVar 5) (aC (eTup (aC (eVar 10) (aC (eVar 11) aN))) aN))) (eCallV (fun _ => false) Φ 4 (aC (eCall 3 m_law_weight (aC (eVar 2) (aC (eVar 3) (aC (eTup (aC (eVar 10) (aC (eVar 11) aN))) aN)))) aN))) (sRet (eC (.bl false))) sNext
def vLoc (Φ : Nat → Mir) : SW := sFz 8 (sFor (iSeq' (eVar 8)) (.nm 11) (vRow Φ))
theorem t_fits_split (Φ : Nat → Mir) : t_law_fits Φ = sSeq (sSet 5 (eCall 1 m_law_plain_lot (aC (eVar 1) aN))) (sSeq (sUnp (.cons (.nm 6) (.cons (.nm 13) (.cons (.nm 12) (.cons (.nm 7) .nil)))) (eVar 5))
    (sSeq (sIf vLeast (sRet (eC (.bl false))) sNext) (sSeq (sIf vBool (sRet (eC (.bl false))) sNext) (sSeq (sIf vZero (sRet (eC (.bl false))) sNext) (sSeq vRows (sSeq (sFor (iOf rng1 (aC (eC (.int 10)) aN)) (.nm 9) vMore)
    (sSeq (sFor (iOf rng1 (aC (eBI lenD (aC (eVar 3) aN)) aN)) (.nm 10) (vLoc Φ)) (sRet (eC (.bl true)))))))))) := rfl
/-- the slots -/
abbrev eF (A : Lt) (dy dv : D) (j : Nat) (s8 s9 s10 s11 : Sl) : Env' := [.val .pen, .val (oD A), .val dy, .val dv, .val (.fn j), .val (lD A), .val (nD A.c), .val (rD A.bg), s8, s9, s10, s11, .val (gdD A.gd), .val (mvD A.mv), .no, .no, .no]
theorem IsR.len {d : D} {ns : List Int} (h : IsR d ns) : lenD [d] = pure (nD ns.length) := by rcases h with rfl | rfl <;> simp [lenD]
/-- a row that is looked at -/
def RowIn (c : Nat) (r : List Nat) : Prop := r.length = c ∧ ∀ x ∈ r, x < 1024
section
variable {A : Lt} {dy dv : D} {ws vs : List Int} {j : Nat} {Φ : Nat → Mir} {bhs : List Bh} {due : Int → Bool} (hy : IsR dy ws) (hv : IsR dv vs) (c3 : ws.length ≤ 3) (h5 : ∀ w ∈ ws, -5 ≤ w ∧ w ≤ 5) (told : Told ws.length bhs A) (lv : A.bg.length = vs.length) (v9 : vs.length ≤ 100)
variable (hdue : ∀ z : Int, Φ j [.int z] = pure (.bl (due z))) (means : ∀ loc, loc < vs.length → ∀ xs n, xs.length = ws.length → Places xs n → A.beh (kAt A.bg loc) (word xs n) = due (kI vs loc + dot ws xs))
include hy hv c3 h5 told lv v9
theorem vLeast_dr {s8 s9 s10 s11 : Sl} : Dr 0 (fun b => b = false) (vLeast (eF A dy dv j s8 s9 s10 s11)) := by
  have n1 := neD_i (A.c : Int) (ws.length : Int)
  rw [decide_eq_true (by rw [told.ca])] at n1
  have bl : lenD [rD A.bg] = pure (nD A.bg.length) := by simp [lenD]
  have n2 := neD_i (A.bg.length : Int) (vs.length : Int)
  rw [decide_eq_true (by rw [lv])] at n2
  have e : vLeast (eF A dy dv j s8 s9 s10 s11) = (m_law_is_least [lD A] >>= fun d => tst d >>= fun b => pure !b) := by
    simp only [vLeast, bOr, bNot, bV, bC, NW.e2, eBI, eCall, aC, aN, eVar, List.getElem?_cons_zero, List.getElem?_cons_succ, WP.pure_bind, hy.len, hv.len, n1, bl, n2, tst, Bool.not_true, Bool.false_eq_true, if_false, List.length_cons, List.length_nil, WP.need_true]
    first | rfl | (congr 1; funext d; cases d <;> rfl)
  rw [e]
  refine Dr.bind (k := 0) (is_least_dr told.ok told.few (by rw [told.ca]; omega) told.num told.inj) fun d hd => ?_
  subst hd
  exact .pure rfl
theorem vBool_run {s8 s9 s10 s11 : Sl} : vBool (eF A dy dv j s8 s9 s10 s11) = pure false := by
  have lc := lcL_encF (t := .nm 14) (tt := bNot (bV (e1 (isiD ["bool"]) (eVar 14)))) (te := eC (.int 1)) (ρ := eF A dy dv j s8 s9 s10 s11) D.bl (fun _ => .int 1) (fun _ => false) A.gd fun b _ => ⟨_, rfl, by
    have i : isiD ["bool"] (.bl b) = pure (.bl true) := rfl
    simp only [bNot, bV, NW.e1, eVar, List.getElem?_cons_zero, List.getElem?_cons_succ, List.set_cons_succ, List.set_cons_zero, WP.pure_bind, i, Bool.not_true]
    rfl, fun z => by cases z⟩
  rw [show A.gd.filter (fun _ => false) = [] from by simp, List.map_nil] at lc
  simp only [vBool, bC, NW.e2, eOfL, eLc, lLst, iSeq', aN, eVar, List.getElem?_cons_zero, List.getElem?_cons_succ, WP.pure_bind, seq_tup, wipeD, List.set_cons_succ, List.set_cons_zero, lc, List.length_nil, Nat.zero_le, WP.need_true, neD_nil, tst]
theorem vZero_run {s8 s9 s10 s11 : Sl} : vZero (eF A dy dv j s8 s9 s10 s11) = pure false := by
  have gl : lenD [gdD A.gd] = pure (nD A.mv.length) := by simp [lenD, told.ok.gl]
  have few := told.few
  have rn := rng_n (n := A.mv.length) (by omega)
  have lc := lcL_encF (t := .nm 15) (tt := bC neD (e2 ixD (eVar 12) (eVar 15)) (e2 ixD (eVar 12) (e2 ixD (e2 ixD (eVar 13) (eVar 15)) (eC (.int 0))))) (te := eC (.int 1)) (ρ := eF A dy dv j s8 s9 s10 s11) nD (fun _ => .int 1) (fun _ => false) (List.range A.mv.length) fun s hs => ⟨_, rfl, by
    have hs := List.mem_range.mp hs
    have p0 : 0 < 2 ^ A.c := two_pos _
    have r1 := ix_good told.ok hs
    have r2 := ix_row told.ok hs
    have r3 : ixD (rD (A.row s)) (.int 0) = pure (nD (A.go s 0)) := ix_go told.ok hs p0
    have r4 := ix_good told.ok (told.ok.go_lt hs p0)
    have n := neD_b (A.good s) (A.good (A.go s 0))
    rw [decide_eq_true (told.ok.g0 s hs)] at n
    simp only [bC, NW.e2, eVar, eC, List.getElem?_cons_zero, List.getElem?_cons_succ, List.set_cons_succ, List.set_cons_zero, WP.pure_bind, r1, r2, r3, r4, n, tst, Bool.not_true]
    rfl, fun z => by cases z⟩
  rw [show (List.range A.mv.length).filter (fun _ => false) = [] from by simp, List.map_nil] at lc
  simp only [vZero, bC, NW.e2, eOfL, eLc, lLst, iOf, eBI, aC, aN, eVar, List.getElem?_cons_zero, List.getElem?_cons_succ, WP.pure_bind, gl, rn, wipeD, List.set_cons_succ, List.set_cons_zero, lc, List.length_nil, Nat.zero_le, WP.need_true, neD_nil, tst]
theorem vRows_run {s8 s9 s10 s11 : Sl} : ∃ L : List (List Nat), (L.length ≤ 100 ∧ ∀ r ∈ L, RowIn ws.length r) ∧ vRows (eF A dy dv j s8 s9 s10 s11) = pure (.nx (eF A dy dv j (.own (L.map rD)) s9 s10 s11)) := by
  obtain ⟨m, hm, hix, hz⟩ : ∃ m : Nat, m ≤ 24 ∧ ixD (.lst [.int 1, .int 24, .int 6, .int 4]) (nD ws.length) = pure (nD m) ∧ ∀ i, i ≤ ws.length → m ^ i ≤ 100 := by
    have : ws.length = 0 ∨ ws.length = 1 ∨ ws.length = 2 ∨ ws.length = 3 := by omega
    rcases this with e | e | e | e <;> rw [e]
    · exact ⟨1, by decide, rfl, fun i hi => by rw [Nat.one_pow]; decide⟩
    · exact ⟨24, by decide, rfl, fun i hi => Nat.le_trans (Nat.pow_le_pow_right (by decide) hi) (by decide)⟩
    · exact ⟨6, by decide, rfl, fun i hi => Nat.le_trans (Nat.pow_le_pow_right (by decide) hi) (by decide)⟩
    · exact ⟨4, by decide, rfl, fun i hi => Nat.le_trans (Nat.pow_le_pow_right (by decide) hi) (by decide)⟩
  have rb := below_rows_eq (c := ws.length) (m := m) (by omega) (by omega) fun i hi => Nat.le_trans (hz i hi) (by decide)
  refine ⟨rowsB m ws.length, ⟨by rw [rowsB_len]; exact hz _ (Nat.le_refl _), fun r hr => ?_⟩, ?_⟩
  · obtain ⟨a, b⟩ := rowsB_mem m _ r hr
    exact ⟨a, fun x hx => by have := b x hx; omega⟩
  · simp only [vRows, sSetOwn, lCall, eOfL, lLst, NW.e2, eBI, aC, aN, eC, eVar, List.getElem?_cons_zero, List.getElem?_cons_succ, WP.pure_bind, hy.len, List.length_cons, List.length_nil, Nat.zero_add, Nat.reduceAdd, WP.need_of sz4, hix, WP.need_true, rb, List.set_cons_succ, List.set_cons_zero]
theorem vMore_dr {L : List (List Nat)} (hL : L.length ≤ 1000) {s9 s10 s11 : Sl} : Nx 3 (fun ρ => ∃ r, RowIn ws.length r ∧ ρ = eF A dy dv j (.own ((L ++ [r]).map rD)) s9 s10 s11) (vMore (eF A dy dv j (.own (L.map rD)) s9 s10 s11)) := by
  have lc := dr_lcE (c := 1) (t := .nm 16) (te := eCall 2 drawM (aC (eVar 0) (aC (eC (.int 1000)) aN))) (ρ := eF A dy dv j (.own (L.map rD)) s9 s10 s11) D.int nD (fun _ x => x < 1000) ws fun w _ => ⟨_, rfl, by
    simp only [eCall, aC, aN, eC, eVar, List.getElem?_cons_zero, List.getElem?_cons_succ, List.set_cons_succ, List.set_cons_zero, WP.pure_bind, List.length_cons, List.length_nil, WP.need_true]
    exact (dr_drawN (c := 1000) (by decide) (by decide)).imp fun d ⟨a, e, h⟩ => ⟨a, e, h⟩⟩
  have tp := dr_lcTup (ti := iSeq' (eVar 2)) (t := .nm 16) (tt := bT) (te := eCall 2 drawM (aC (eVar 0) (aC (eC (.int 1000)) aN))) (vs := [16]) (ρ := eF A dy dv j (.own (L.map rD)) s9 s10 s11) (xs := ws.map D.int) (by
    simp only [iSeq', eVar, List.getElem?_cons_zero, List.getElem?_cons_succ, WP.pure_bind, hy.seq]) (lc.mono (k := 3) (by omega) fun _ z => z)
  have z : (L.map rD).length < sizeLine := by rw [List.length_map]; exact Nat.lt_of_le_of_lt hL (Nat.lt_of_lt_of_le (by decide) (szM (n := 10000) (by decide)))
  have e : vMore (eF A dy dv j (.own (L.map rD)) s9 s10 s11) = (eBI tupL (eLc (iSeq' (eVar 2)) (.nm 16) bT (eCall 2 drawM (aC (eVar 0) (aC (eC (.int 1000)) aN))) [16]) (eF A dy dv j (.own (L.map rD)) s9 s10 s11) >>= fun d => pure (.nx (eF A dy dv j (.own (L.map rD ++ [d])) s9 s10 s11))) := by
    simp only [vMore, sAppend, List.getElem?_cons_zero, List.getElem?_cons_succ, WP.need_of z, List.set_cons_succ, List.set_cons_zero]
  rw [e]
  refine (Dr.bind (k := 0) tp fun d ⟨l, ⟨ys, el, hl, hp⟩, ed⟩ => ?_).mono (by omega) fun _ z => z
  subst ed
  subst el
  refine .pure ⟨_, rfl, ys, ⟨hl, fun x hx => ?_⟩, by rw [List.map_append]; rfl⟩
  obtain ⟨i, hi, ei⟩ := List.getElem_of_mem hx
  have hw : i < ws.length := by omega
  have := hp i ws[i] x (List.getElem?_eq_getElem hw) (by rw [List.getElem?_eq_getElem hi, ei])
  omega
include hdue means
theorem vRow_run {loc : Nat} (hl : loc < vs.length) {r : List Nat} (hr : RowIn ws.length r) {s8 s9 : Sl} : vRow Φ (eF A dy dv j s8 s9 (.val (nD loc)) (.val (rD r))) = pure (.nx (eF A dy dv j s8 s9 (.val (nD loc)) (.val (rD r)))) := by
  obtain ⟨n, hn, pl⟩ := places_ex (xs := r) 10 0 10 rfl hr.2 fun q hq => by omega
  have hx : r.length = A.c := by rw [hr.1, told.ca]
  have ii := lis_in_eq told.ok hx (by rw [told.ca]; omega) (by rw [lv]; exact hl) pl (by omega)
  have ib := isIn_beh told.ok hx (by rw [lv]; exact hl) (loc := loc) (n := n)
  rw [ib, means loc hl r n hr.1 pl] at ii
  have wt := weight_eq hy hv h5 hl r
  have du := hdue (kI vs loc + dot ws r)
  have nf : D.nofns [D.int (kI vs loc + dot ws r)] = true := rfl
  have n := neD_b (due (kI vs loc + dot ws r)) (due (kI vs loc + dot ws r))
  rw [decide_eq_true rfl] at n
  simp only [vRow, sIf, bC, NW.e2, eTup, eCall, eCallV, aC, aN, eVar, List.getElem?_cons_zero, List.getElem?_cons_succ, WP.pure_bind, List.length_cons, List.length_nil, Nat.zero_add, Nat.reduceAdd, WP.need_of sz2, WP.need_true, ii, wt, nf, du, n, tst, Bool.not_true, Bool.false_eq_true, if_false, sNext]
theorem vLoc_run {loc : Nat} (hl : loc < vs.length) {L : List (List Nat)} (hL : ∀ r ∈ L, RowIn ws.length r) {s8 s9 s11 : Sl} (h8 : s8 = .own (L.map rD) ∨ s8 = .val (.lst (L.map rD))) : ∃ t11, vLoc Φ (eF A dy dv j s8 s9 (.val (nD loc)) s11) = pure (.nx (eF A dy dv j (.val (.lst (L.map rD))) s9 (.val (nD loc)) t11)) := by
  obtain ⟨ρ', q1, ⟨t11, q2⟩⟩ := forL_idx rD (fun _ ρ => ∃ s11, ρ = eF A dy dv j (.val (.lst (L.map rD))) s9 (.val (nD loc)) s11) L (t := .nm 11) (tb := vRow Φ) (ρ := eF A dy dv j (.val (.lst (L.map rD))) s9 (.val (nD loc)) s11) ⟨s11, rfl⟩ (by
    rintro i r ρ hx ⟨s11, rfl⟩
    exact ⟨_, _, rfl, .inl (vRow_run hy hv c3 h5 told lv v9 hdue means hl (hL r (List.mem_of_getElem? hx))), .val (rD r), rfl⟩)
  subst q2
  refine ⟨t11, ?_⟩
  have fz : vLoc Φ (eF A dy dv j s8 s9 (.val (nD loc)) s11) = sFor (iSeq' (eVar 8)) (.nm 11) (vRow Φ) (eF A dy dv j (.val (.lst (L.map rD))) s9 (.val (nD loc)) s11) := by
    rcases h8 with rfl | rfl <;> rfl
  rw [fz, sFor_of (xs := L.map rD) rfl, q1]
/-- it fits -/
theorem fits_dr : Dr 100 (fun d => d = .bl true) (M_law_fits Φ [.pen, oD A, dy, dv, .fn j]) := by
  refine dr_body (ρ := [.val .pen, .val (oD A), .val dy, .val dv, .val (.fn j), .no, .no, .no, .no, .no, .no, .no, .no, .no, .no, .no, .no]) rfl ?_
  rw [t_fits_split]
  have pe := plain_eq (A := A)
  have w1 : (sSet 5 (eCall 1 m_law_plain_lot (aC (eVar 1) aN))) [.val .pen, .val (oD A), .val dy, .val dv, .val (.fn j), .no, .no, .no, .no, .no, .no, .no, .no, .no, .no, .no, .no] = pure (.nx [.val .pen, .val (oD A), .val dy, .val dv, .val (.fn j), .val (lD A), .no, .no, .no, .no, .no, .no, .no, .no, .no, .no, .no]) := by
    simp only [sSet, eCall, aC, aN, eVar, List.getElem?_cons_zero, List.getElem?_cons_succ, WP.pure_bind, List.length_cons, List.length_nil, WP.need_true, pe, List.set_cons_succ, List.set_cons_zero]
  have w2 : (sUnp (.cons (.nm 6) (.cons (.nm 13) (.cons (.nm 12) (.cons (.nm 7) .nil)))) (eVar 5)) [.val .pen, .val (oD A), .val dy, .val dv, .val (.fn j), .val (lD A), .no, .no, .no, .no, .no, .no, .no, .no, .no, .no, .no] = pure (.nx (eF A dy dv j .no .no .no .no)) := rfl
  refine dr_sq0 w1 (dr_sq0 w2 ?_)
  have w3 : Nx 0 (fun ρ => ρ = eF A dy dv j .no .no .no .no) ((sIf vLeast (sRet (eC (.bl false))) sNext) (eF A dy dv j .no .no .no .no)) := by
    unfold sIf
    refine Dr.bind (k := 0) (vLeast_dr hy hv c3 h5 told lv v9) fun b hb => ?_
    subst hb
    exact .pure ⟨_, rfl, rfl⟩
  refine (dr_sq (k := 90) w3 fun ρ e => ?_).mono (by omega) fun _ z => z
  subst e
  have w4 : (sIf vBool (sRet (eC (.bl false))) sNext) (eF A dy dv j .no .no .no .no) = pure (.nx (eF A dy dv j .no .no .no .no)) := by
    simp only [sIf, vBool_run hy hv c3 h5 told lv v9, WP.pure_bind, Bool.false_eq_true, if_false, sNext]
  have w5 : (sIf vZero (sRet (eC (.bl false))) sNext) (eF A dy dv j .no .no .no .no) = pure (.nx (eF A dy dv j .no .no .no .no)) := by
    simp only [sIf, vZero_run hy hv c3 h5 told lv v9, WP.pure_bind, Bool.false_eq_true, if_false, sNext]
  obtain ⟨L0, ⟨l0, r0⟩, w6⟩ := vRows_run hy hv c3 h5 told lv v9 (j := j) (s8 := .no) (s9 := .no) (s10 := .no) (s11 := .no)
  refine dr_sq0 w4 (dr_sq0 w5 (dr_sq0 w6 ?_))
  have r10 := rng_n (n := 10) (by decide)
  have w7 : (iOf rng1 (aC (eC (.int 10)) aN)) (eF A dy dv j (.own (L0.map rD)) .no .no .no) = pure ((List.range 10).map nD) := by
    simp only [iOf, aC, aN, eC, WP.pure_bind]
    exact r10
  have loop := nx_idx (c := 3) (t := .nm 9) (tb := vMore) nD (fun i ρ => ∃ (L : List (List Nat)) (s9 : Sl), (L.length ≤ 100 + i ∧ ∀ r ∈ L, RowIn ws.length r) ∧ ρ = eF A dy dv j (.own (L.map rD)) s9 .no .no) (List.range 10) (ρ := eF A dy dv j (.own (L0.map rD)) .no .no .no) ⟨L0, .no, ⟨by omega, r0⟩, rfl⟩ (by
    rintro i x ρ hx ⟨L, s9, ⟨h1, h2⟩, rfl⟩
    obtain ⟨rfl, hi⟩ := range_at hx
    refine ⟨_, rfl, (vMore_dr hy hv c3 h5 told lv v9 (L := L) (by omega)).imp ?_⟩
    rintro f ⟨ρ, rfl, r, hr, rfl⟩
    refine ⟨_, rfl, L ++ [r], _, ⟨by simp; omega, fun q hq => ?_⟩, rfl⟩
    rcases List.mem_append.mp hq with z | z
    · exact h2 q z
    · rw [List.mem_singleton.mp z]; exact hr)
  have loop' : Nx 30 (fun ρ => ∃ (L : List (List Nat)) (s9 : Sl), (L.length ≤ 110 ∧ ∀ r ∈ L, RowIn ws.length r) ∧ ρ = eF A dy dv j (.own (L.map rD)) s9 .no .no) ((sFor (iOf rng1 (aC (eC (.int 10)) aN)) (.nm 9) vMore) (eF A dy dv j (.own (L0.map rD)) .no .no .no)) := by
    rw [sFor_of w7]
    exact loop.mono (by simp) fun _ z => z
  refine (dr_sq (k := 0) loop' fun ρ hE => ?_).mono (by omega) fun _ z => z
  obtain ⟨L, s9, ⟨hl, hL⟩, rfl⟩ := hE
  have rv := rng_n (n := vs.length) (by omega)
  have w8 : (iOf rng1 (aC (eBI lenD (aC (eVar 3) aN)) aN)) (eF A dy dv j (.own (L.map rD)) s9 .no .no) = pure ((List.range vs.length).map nD) := by
    simp only [iOf, eBI, aC, aN, eVar, List.getElem?_cons_zero, List.getElem?_cons_succ, WP.pure_bind, hv.len, rv]
  obtain ⟨ρ', q1, ⟨t8, t10, t11, h8, q2⟩⟩ := forL_idx nD (fun _ ρ => ∃ s8 s10 s11, (s8 = .own (L.map rD) ∨ s8 = .val (.lst (L.map rD))) ∧ ρ = eF A dy dv j s8 s9 s10 s11) (List.range vs.length) (t := .nm 10) (tb := vLoc Φ) (ρ := eF A dy dv j (.own (L.map rD)) s9 .no .no) ⟨_, _, _, .inl rfl, rfl⟩ (by
    rintro i x ρ hx ⟨s8, s10, s11, h8, rfl⟩
    obtain ⟨rfl, hi⟩ := range_at hx
    obtain ⟨t11, r⟩ := vLoc_run hy hv c3 h5 told lv v9 hdue means hi hL (s9 := s9) (s11 := s11) h8
    exact ⟨_, _, rfl, .inl r, _, _, _, .inr rfl, rfl⟩)
  subst q2
  refine dr_sq0 ((sFor_of w8).trans q1) ?_
  exact .pure ⟨_, rfl, rfl⟩
end
end K24
end
section
set_option Elab.async false
set_option autoImplicit false
set_option linter.all false
set_option maxRecDepth 100000
set_option maxHeartbeats 4000000
/-! k24, the plain law: the law itself -/
namespace K24
open PySem PySem.Spec PyProof.Rows L2 L2.NW L2.NW.Au
/-! ### what is due -/
theorem beh_loc {A : Lt} {vs : List Int} {g : Int → Bh} (e : A.bg.map A.beh = vs.map g) {loc : Nat} (hl : loc < vs.length) : A.beh (kAt A.bg loc) = g (kI vs loc) := by
  have ln : A.bg.length = vs.length := by have := congrArg List.length e; simpa using this
  have a := congrArg (fun l : List Bh => l[loc]?) e
  simp only [List.getElem?_map] at a
  rw [List.getElem?_eq_getElem (show loc < A.bg.length by omega), List.getElem?_eq_getElem hl] at a
  have k1 : kAt A.bg loc = A.bg[loc] := kAt_some (List.getElem?_eq_getElem (by omega))
  have k2 : kI vs loc = vs[loc] := by unfold kI; rw [List.getElem?_eq_getElem hl]; rfl
  rw [k1, k2]
  exact Option.some.inj a
theorem means_S {ws vs : List Int} {c : Int} {ex : Bool} {A : Lt} (e : A.bg.map A.beh = (vs.map fun x => some (c - x)).map (beh (goS ws ex) (gdS ex) (2 ^ ws.length))) : ∀ loc, loc < vs.length → ∀ xs n, xs.length = ws.length → Places xs n → A.beh (kAt A.bg loc) (word xs n) = if ex then decide (kI vs loc + dot ws xs = c) else decide (kI vs loc + dot ws xs ≤ c) := fun loc hl xs n hx pl => by
  rw [List.map_map] at e
  rw [beh_loc e hl]
  show beh (goS ws ex) (gdS ex) (2 ^ ws.length) (some (c - kI vs loc)) (word xs n) = _
  unfold beh
  rw [word_lt hx, Bool.true_and, S_means pl.1]
  unfold meanS
  cases ex with
  | true =>
    simp only [if_true]
    exact decide_eq_decide.mpr (by omega)
  | false =>
    simp only [Bool.false_eq_true, if_false]
    exact decide_eq_decide.mpr (by omega)
theorem means_L {ws vs : List Int} {c : Int} {m : Nat} (m0 : 0 < m) {A : Lt} (e : A.bg.map A.beh = (vs.map fun x => some ((m : Int), (c - x) % (m : Int))).map (beh (goL ws) gdL (2 ^ ws.length))) : ∀ loc, loc < vs.length → ∀ xs n, xs.length = ws.length → Places xs n → A.beh (kAt A.bg loc) (word xs n) = decide ((kI vs loc + dot ws xs - c) % (m : Int) = 0) := fun loc hl xs n hx pl => by
  rw [List.map_map] at e
  rw [beh_loc e hl]
  show beh (goL ws) gdL (2 ^ ws.length) (some ((m : Int), (c - kI vs loc) % (m : Int))) (word xs n) = _
  unfold beh
  rw [word_lt hx, Bool.true_and, L_means (v := some ((m : Int), (c - kI vs loc) % (m : Int))) ⟨Int.emod_nonneg _ (by omega), Int.emod_lt_of_pos _ (by omega)⟩ pl.1]
  unfold meanL
  refine decide_eq_decide.mpr ?_
  rw [mod_sub]
  have q : kI vs loc + dot ws xs - c = -(c - kI vs loc - dot ws xs) := by omega
  rw [q, ← Int.dvd_iff_emod_eq_zero, ← Int.dvd_iff_emod_eq_zero, Int.dvd_neg]
/-! ### the law's own lambdas -/
section
variable {s0 s1 s2 s3 s4 s5 s8 s9 s10 : Sl} {c : Int} {n : Nat}
abbrev eW (s0 s1 s2 s3 s4 s5 s9 s10 : Sl) (c : Int) (n : Nat) : Env' := [s0, s1, s2, s3, s4, s5, .val (.int c), .val (nD n), .val .pen, s9, s10]
theorem due10 (z : Int) : mixM (own_law Φ0) (eW s0 s1 s2 s3 s4 s5 s9 s10 c n) Φ0 10 [.int z] = pure (.bl (if true then decide (z = c) else decide (z ≤ c))) := by
  show WP.need ([D.int z].length = 1) (WP.nofnx (te_10 [.val (.int z), .val (.int c)])) = _
  have e := eqD_i z c
  simp only [List.length_cons, List.length_nil, WP.need_true, te_10, NW.e2, eVar, List.getElem?_cons_zero, List.getElem?_cons_succ, WP.pure_bind, e, if_true]
  exact WP.nofnx_pure rfl
theorem due11 (z : Int) : mixM (own_law Φ0) (eW s0 s1 s2 s3 s4 s5 s9 s10 c n) Φ0 11 [.int z] = pure (.bl (if false then decide (z = c) else decide (z ≤ c))) := by
  show WP.need ([D.int z].length = 1) (WP.nofnx (te_11 [.val (.int z), .val (.int c)])) = _
  have e : leD (.int z) (.int c) = pure (.bl (decide (z ≤ c))) := by simp only [leD, i2, WP.need_true]
  simp only [List.length_cons, List.length_nil, WP.need_true, te_11, NW.e2, eVar, List.getElem?_cons_zero, List.getElem?_cons_succ, WP.pure_bind, e, Bool.false_eq_true, if_false]
  exact WP.nofnx_pure rfl
theorem due12 (n0 : 0 < n) (z : Int) : mixM (own_law Φ0) (eW s0 s1 s2 s3 s4 s5 s9 s10 c n) Φ0 12 [.int z] = pure (.bl (decide ((z - c) % (n : Int) = 0))) := by
  show WP.need ([D.int z].length = 1) (WP.nofnx (te_12 [.val (.int z), .val (.int c), .val (nD n)])) = _
  have s := subD_i z c
  have i : NW.intD [.int (z - c)] = pure (.int (z - c)) := rfl
  have m : modD (.int (z - c)) (nD n) = pure (.int ((z - c) % (n : Int))) := by
    have c' : (0 : Int) < (n : Int) := by omega
    simp only [modD, i2, WP.need_of c']
  have e := eqD_i ((z - c) % (n : Int)) 0
  simp only [List.length_cons, List.length_nil, WP.need_true, te_12, NW.e2, eBI, aC, aN, eC, eVar, List.getElem?_cons_zero, List.getElem?_cons_succ, WP.pure_bind, s, i, m, e]
  exact WP.nofnx_pure rfl
end
/-! ### repr at the end -/
def oddD : List D := [.int 0, .int (-1), .bl true, .non, .str "2", .tup [.int 2], .lst [.int 1]]
abbrev nD2 (d : D) : D := .tup [.str "n", d]
theorem rep_odd : ∀ d ∈ oddD, reprD [nD2 d] = pure (D.str (nD2 d).py.shown) ∧ eqD (.str (nD2 d).py.shown) (.str (nD2 d).py.shown) = pure (.bl true) := by
  have one : ∀ d : D, D.deep 63 d → (nD2 d).py.showable = true → (nD2 d).py.hasDict = false → (nD2 d).py.shown.length ≤ 1000 → PyData.strOk (nD2 d).py.shown = true → reprD [nD2 d] = pure (D.str (nD2 d).py.shown) ∧ eqD (.str (nD2 d).py.shown) (.str (nD2 d).py.shown) = pure (.bl true) := fun d h1 h2 h3 h4 h5 => by
    have sn : PyData.strOk ("n" : Str) = true := by decide +kernel
    have dp : D.deep 64 (nD2 d) := ⟨63, rfl, ⟨sn, h1, trivial⟩⟩
    refine ⟨?_, ?_⟩
    · show WP.need (D.deep 64 (nD2 d) ∧ (nD2 d).py.showable = true ∧ (nD2 d).py.hasDict = false ∧ (nD2 d).py.shown.length ≤ sizeLine) (pure (D.str (nD2 d).py.shown)) = _
      rw [WP.need_of ⟨dp, h2, h3, Nat.le_trans h4 (szM (by decide))⟩]
    · unfold eqD
      have ds : D.deep 64 (.str (nD2 d).py.shown) := h5
      rw [WP.need_of (And.intro ds ds)]
      simp [D.eq, D.py, PyData.eqv]
  intro d hd
  simp only [oddD, List.mem_cons, List.not_mem_nil, or_false] at hd
  rcases hd with rfl | rfl | rfl | rfl | rfl | rfl | rfl
  · exact one _ (by simp [D.deep]) (by decide +kernel) (by decide +kernel) (by decide +kernel) (by decide +kernel)
  · exact one _ (by simp [D.deep]) (by decide +kernel) (by decide +kernel) (by decide +kernel) (by decide +kernel)
  · exact one _ (by simp [D.deep]) (by decide +kernel) (by decide +kernel) (by decide +kernel) (by decide +kernel)
  · exact one _ (by simp [D.deep]) (by decide +kernel) (by decide +kernel) (by decide +kernel) (by decide +kernel)
  · exact one _ (show PyData.strOk ("2" : Str) = true by decide +kernel) (by decide +kernel) (by decide +kernel) (by decide +kernel) (by decide +kernel)
  · exact one _ ⟨62, rfl, ⟨trivial, trivial⟩⟩ (by decide +kernel) (by decide +kernel) (by decide +kernel) (by decide +kernel)
  · exact one _ ⟨62, rfl, ⟨trivial, trivial⟩⟩ (by decide +kernel) (by decide +kernel) (by decide +kernel) (by decide +kernel)
theorem like_raise : ∀ d ∈ oddD, m_weights_like [.tup [.int 1], .tup [.int 0], d, .int 0] = WP.raise ⟨"BadNumber", ["what", "number"], [.str "n", d]⟩ := by
  have one : ∀ (d : D) (a b l : Bool), d.nofn = true → isiD ["int"] d = pure (.bl a) → isiD ["bool"] d = pure (.bl b) → (a = true → b = false → ltD d (.int 1) = pure (.bl l)) → (a = true → b = false → l = true) → m_weights_like [.tup [.int 1], .tup [.int 0], d, .int 0] = WP.raise ⟨"BadNumber", ["what", "number"], [.str "n", d]⟩ := fun d a b l nf h1 h2 h3 h4 => by
    have nw : D.nofws (fun _ => true) [.tup [.int 1], .tup [.int 0], d, .int 0] = true := by simp [D.nofws, D.nofw, nf]
    have run : bodyD 6 (t_weights_like Φ0) [.tup [.int 1], .tup [.int 0], d, .int 0] = WP.raise ⟨"BadNumber", ["what", "number"], [.str "n", d]⟩ := by
      unfold bodyD
      rw [show startD 6 [.tup [.int 1], .tup [.int 0], d, .int 0] = [.val (.tup [.int 1]), .val (.tup [.int 0]), .val d, .val (.int 0), .no, .no] from rfl]
      have w : (bOr (bNot (bV (e1 (isiD ["int"]) (eVar 2)))) (bOr (bV (e1 (isiD ["bool"]) (eVar 2))) (bC ltD (eVar 2) (eC (.int 1))))) [.val (.tup [.int 1]), .val (.tup [.int 0]), .val d, .val (.int 0), .no, .no] = pure true := by
        cases a with
        | false => simp only [bOr, bNot, bV, NW.e1, eVar, List.getElem?_cons_zero, List.getElem?_cons_succ, WP.pure_bind, h1, Bool.not_false, if_true]
        | true =>
          cases b with
          | true => simp only [bOr, bNot, bV, NW.e1, eVar, List.getElem?_cons_zero, List.getElem?_cons_succ, WP.pure_bind, h1, h2, Bool.not_true, Bool.false_eq_true, if_false, if_true]
          | false =>
            have h5 := h3 rfl rfl
            rw [h4 rfl rfl] at h5
            simp only [bOr, bNot, bV, bC, NW.e1, NW.e2, eC, eVar, List.getElem?_cons_zero, List.getElem?_cons_succ, WP.pure_bind, h1, h2, h5, tst, Bool.not_true, Bool.false_eq_true, if_false]
      simp only [t_weights_like, sSeq, sIf, w, WP.pure_bind, if_true, sRaise, aC, aN, eC, eVar, List.getElem?_cons_zero, List.getElem?_cons_succ, List.length_cons, List.length_nil, WP.need_true, WP.raise_bind]
    unfold m_weights_like bodyM
    rw [WP.need_of nw]
    show WP.nofnx (bodyD 6 (t_weights_like Φ0) _) = _
    rw [run, WP.nofnx_raise (by simp [D.nofws, D.nofw, nf])]
  intro d hd
  simp only [oddD, List.mem_cons, List.not_mem_nil, or_false] at hd
  rcases hd with rfl | rfl | rfl | rfl | rfl | rfl | rfl
  · exact one _ true false true rfl rfl rfl (fun _ _ => ltD_i 0 1) fun _ _ => rfl
  · exact one _ true false true rfl rfl rfl (fun _ _ => ltD_i (-1) 1) fun _ _ => rfl
  · exact one _ true true true rfl rfl rfl (fun _ z => nomatch z) fun _ _ => rfl
  · exact one _ false false true rfl rfl rfl (fun z => nomatch z) fun _ _ => rfl
  · exact one _ false false true rfl rfl rfl (fun z => nomatch z) fun _ _ => rfl
  · exact one _ false false true rfl rfl rfl (fun z => nomatch z) fun _ _ => rfl
  · exact one _ false false true rfl rfl rfl (fun z => nomatch z) fun _ _ => rfl
end K24
end
section
set_option Elab.async false
set_option autoImplicit false
set_option linter.all false
set_option maxRecDepth 100000
set_option maxHeartbeats 4000000
/-! k24, the plain law: the law itself, from its first line on -/
namespace K24
open PySem PySem.Spec PyProof.Rows L2 L2.NW L2.NW.Au
theorem tryc_raise {α : Type} (x : NW.Ex) (h : NW.Ex → WP α) : WP.tryc (WP.raise x) h = h x := rfl
theorem any_free {α : Type} (m : WP α) : (WP.any (fun _ : V => True) >>= fun _ => m) = m := by
  ext b Q E
  exact ⟨fun z => z (.int 0) trivial, fun z _ _ => z⟩
/-! ### the texts -/
def yOne (j : Nat) : EW := e2 subD (eCall 2 drawM (aC (eVar 8) (aC (eC (.int 11)) aN))) (eC (.int 5))
def yY : SW := sSet 2 (eBI tupL (eLc (iOf rng1 (aC (eCall 2 drawM (aC (eVar 8) (aC (eC (.int 4)) aN))) aN)) (.nm 9) bT (yOne 9) [9]))
def yV : SW := sSet 3 (eBI tupL (eLc (iOf rng1 (aC (e2 addD (eC (.int 1)) (eCall 2 drawM (aC (eVar 8) (aC (eC (.int 3)) aN)))) aN)) (.nm 10) bT (yOne 10) [10]))
def yCN : SW := sUnp (.cons (.nm 6) (.cons (.nm 7) .nil)) (eTup (aC (e2 subD (eCall 2 drawM (aC (eVar 8) (aC (eC (.int 25)) aN))) (eC (.int 8))) (aC (e2 addD (eC (.int 1)) (eCall 2 drawM (aC (eVar 8) (aC (eC (.int 12)) aN)))) aN)))
def yIf (t : EW) : SW := sIf (bNot (bV t)) (sRet (eC (.bl false))) sNext
def yE : EW := eCallH 5 M_law_fits (own_law Φ0) Φ0 (aC (eVar 8) (aC (eCall 3 m_weights_equal (aC (eVar 2) (aC (eVar 3) (aC (eVar 6) aN)))) (aC (eVar 2) (aC (eVar 3) (aC (eC (.fn 10)) aN)))))
def yB : EW := eCallH 5 M_law_fits (own_law Φ0) Φ0 (aC (eVar 8) (aC (eCall 3 m_weights_below (aC (eOfL (lBI (fun l => listD l) (aC (eVar 2) aN))) (aC (eVar 3) (aC (eVar 6) aN)))) (aC (eVar 2) (aC (eVar 3) (aC (eC (.fn 11)) aN)))))
def yL : EW := eCallH 5 M_law_fits (own_law Φ0) Φ0 (aC (eVar 8) (aC (eCall 4 m_weights_like (aC (eVar 2) (aC (eOfL (lBI (fun l => listD l) (aC (eVar 3) aN))) (aC (eVar 7) (aC (eVar 6) aN))))) (aC (eVar 2) (aC (eVar 3) (aC (eC (.fn 12)) aN)))))
def yLap : SW := sSeq yY (sSeq yV (sSeq yCN (sSeq (yIf yE) (sSeq (yIf yB) (yIf yL)))))
def yOdd : SW := sSet 4 (eCall 2 m_law_pick (aC (eVar 8) (aC (eOfL (lLst (aC (eC (.int 0)) (aC (e1 negD (eC (.int 1))) (aC (eC (.bl true)) (aC (eC .non) (aC (eC (.str "2")) (aC (eTup (aC (eC (.int 2)) aN)) (aC (eOfL (lLst (aC (eC (.int 1)) aN))) aN))))))))) aN)))
def yCl (er : V) (x : NW.Ex) : SW := sRet (e2 eqD (fun ρ => do let d ← (eTup (aC (eXf 5 er x ["BadNumber"] "what") (aC (eXf 5 er x ["BadNumber"] "number") aN))) ρ; reprD [d]) (fun ρ => do let d ← (eTup (aC (eC (.str "n")) (aC (eVar 4) aN))) ρ; reprD [d]))
def yTry : SW := sTryE Fw 5 [("BadNumber", fun er x => yCl er x)] (eCall 4 m_weights_like (aC (eTup (aC (eC (.int 1)) aN)) (aC (eTup (aC (eC (.int 0)) aN)) (aC (eVar 4) (aC (eC (.int 0)) aN)))))
theorem t_law_split : t_law Φ0 = sSeq (sFor (iOf rng1 (aC (eC (.int 3)) aN)) (.nm 1) yLap) (sSeq yOdd (sSeq yTry (sRet (eC (.bl false))))) := rfl
/-- the slots -/
abbrev eL (s1 s2 s3 s4 s5 s6 s7 s9 s10 : Sl) : Env' := [.no, s1, s2, s3, s4, s5, s6, s7, .val .pen, s9, s10]
theorem one_dr {j : Nat} {ρ : Env'} (h : ρ[8]? = some (.val .pen)) : Dr 1 (fun d => ∃ i : Int, d = .int i ∧ (-5 ≤ i ∧ i ≤ 5)) (yOne j ρ) := by
  have e : yOne j ρ = (drawM [.pen, nD 11] >>= fun y => subD y (.int 5)) := by
    simp only [yOne, NW.e2, eCall, aC, aN, eVar, eC, h, WP.pure_bind, List.length_cons, List.length_nil, WP.need_true]
    rfl
  rw [e]
  refine Dr.bind (k := 0) (dr_drawN (c := 11) (by decide) (by decide)) fun y ⟨a, ey, ha⟩ => ?_
  subst ey
  rw [subD_i]
  exact .pure ⟨_, rfl, by omega, by omega⟩
/-- a row of drawn ints -/
theorem row_dr {ti : AW} {v : Nat} {ρ : Env'} {k : Nat} {lo : Nat} (hv : v = 9 ∨ v = 10) (h8 : (ρ.set v .no)[8]? = some (.val .pen)) (hi : Dr 1 (fun xs => ∃ n : Nat, xs = (List.range n).map nD ∧ lo ≤ n ∧ n ≤ 3) (ti ρ)) :
    Dr 4 (fun d => ∃ ws : List Int, d = .tup (ws.map D.int) ∧ (lo ≤ ws.length ∧ ws.length ≤ 3) ∧ ∀ w ∈ ws, -5 ≤ w ∧ w ≤ 5) (eBI tupL (eLc ti (.nm v) bT (yOne v) [v]) ρ) := by
  show Dr 4 _ (eLc ti (.nm v) bT (yOne v) [v] ρ >>= tupL)
  have e : (eLc ti (.nm v) bT (yOne v) [v] ρ >>= tupL) = (ti ρ >>= fun xs => lcL (.nm v) bT (yOne v) (ρ.set v .no) xs >>= tupL) := by
    unfold eLc
    rw [WP.bind_assoc]
    rfl
  rw [e]
  refine (Dr.bind (k := 3) hi fun xs ⟨n, ex, n1, n3⟩ => ?_).mono (by decide) fun _ z => z
  subst ex
  have lc := dr_lcE (c := 1) (t := .nm v) (te := yOne v) (ρ := ρ.set v .no) nD D.int (fun _ (w : Int) => -5 ≤ w ∧ w ≤ 5) (List.range n) fun x _ => by
    refine ⟨(ρ.set v .no).set v (.val (nD x)), ?_, one_dr ?_⟩
    · rfl
    · rw [List.getElem?_set_ne (by omega)]
      exact h8
  refine (Dr.bind (k := 0) lc fun l ⟨ys, el, hy, hp⟩ => ?_).mono (by rw [List.length_range]; omega) fun _ z => z
  subst el
  rw [List.length_range] at hy
  refine .pure ⟨ys, rfl, by omega, fun w hw => ?_⟩
  obtain ⟨i, hi', ei⟩ := List.getElem_of_mem hw
  exact hp i i w (List.getElem?_range (by omega)) (by rw [List.getElem?_eq_getElem hi', ei])
theorem yY_dr {s1 s2 s3 s4 s5 s6 s7 s9 s10 : Sl} : Nx 4 (fun ρ => ∃ ws : List Int, (ws.length ≤ 3 ∧ ∀ w ∈ ws, -5 ≤ w ∧ w ≤ 5) ∧ ρ = eL s1 (.val (.tup (ws.map D.int))) s3 s4 s5 s6 s7 s9 s10) (yY (eL s1 s2 s3 s4 s5 s6 s7 s9 s10)) := by
  refine nx_set (row_dr (lo := 0) (k := 0) (.inl rfl) rfl ?_) fun d ⟨ws, e, h1, h2⟩ => ⟨ws, ⟨h1.2, h2⟩, by rw [e]; rfl⟩
  have e : (iOf rng1 (aC (eCall 2 drawM (aC (eVar 8) (aC (eC (.int 4)) aN))) aN)) (eL s1 s2 s3 s4 s5 s6 s7 s9 s10) = (drawM [.pen, nD 4] >>= fun d => rng1 [d]) := by
    simp only [iOf, eCall, aC, aN, eVar, eC, List.getElem?_cons_zero, List.getElem?_cons_succ, WP.pure_bind, WP.bind_assoc, List.length_cons, List.length_nil, WP.need_true]
    rfl
  rw [e]
  refine Dr.bind (k := 0) (dr_drawN (c := 4) (by decide) (by decide)) fun d ⟨a, ed, ha⟩ => ?_
  subst ed
  rw [rng_n (by omega)]
  exact .pure ⟨a, rfl, by omega, by omega⟩
theorem yV_dr {s1 s2 s3 s4 s5 s6 s7 s9 s10 : Sl} : Nx 4 (fun ρ => ∃ vs : List Int, ((1 ≤ vs.length ∧ vs.length ≤ 3) ∧ ∀ w ∈ vs, -5 ≤ w ∧ w ≤ 5) ∧ ρ = eL s1 s2 (.val (.tup (vs.map D.int))) s4 s5 s6 s7 s9 s10) (yV (eL s1 s2 s3 s4 s5 s6 s7 s9 s10)) := by
  refine nx_set (row_dr (lo := 1) (k := 0) (.inr rfl) rfl ?_) fun d ⟨ws, e, h1, h2⟩ => ⟨ws, ⟨h1, h2⟩, by rw [e]; rfl⟩
  have e : (iOf rng1 (aC (e2 addD (eC (.int 1)) (eCall 2 drawM (aC (eVar 8) (aC (eC (.int 3)) aN)))) aN)) (eL s1 s2 s3 s4 s5 s6 s7 s9 s10) = (drawM [.pen, nD 3] >>= fun d => addD (.int 1) d >>= fun d => rng1 [d]) := by
    simp only [iOf, NW.e2, eCall, aC, aN, eVar, eC, List.getElem?_cons_zero, List.getElem?_cons_succ, WP.pure_bind, WP.bind_assoc, List.length_cons, List.length_nil, WP.need_true]
    rfl
  rw [e]
  refine Dr.bind (k := 0) (dr_drawN (c := 3) (by decide) (by decide)) fun d ⟨a, ed, ha⟩ => ?_
  subst ed
  have ad : addD (.int 1) (nD a) = pure (nD (1 + a)) := add_n 1 a
  rw [ad, WP.pure_bind, rng_n (by omega)]
  exact .pure ⟨1 + a, rfl, by omega, by omega⟩
theorem yCN_dr {s1 s2 s3 s4 s5 s6 s7 s9 s10 : Sl} : Nx 2 (fun ρ => ∃ (c : Int) (n : Nat), ((-8 ≤ c ∧ c ≤ 16) ∧ 0 < n ∧ n ≤ 12) ∧ ρ = eW .no s1 s2 s3 s4 s5 s9 s10 c n) (yCN (eL s1 s2 s3 s4 s5 s6 s7 s9 s10)) := by
  have e : yCN (eL s1 s2 s3 s4 s5 s6 s7 s9 s10) = (drawM [.pen, nD 25] >>= fun a => subD a (.int 8) >>= fun c => drawM [.pen, nD 12] >>= fun b => addD (.int 1) b >>= fun n => pure (.nx [.no, s1, s2, s3, s4, s5, .val c, .val n, .val .pen, s9, s10])) := by
    simp only [yCN, sUnp, eTup, NW.e2, eCall, aC, aN, eVar, eC, List.getElem?_cons_zero, List.getElem?_cons_succ, WP.pure_bind, WP.bind_assoc, List.length_cons, List.length_nil, Nat.zero_add, Nat.reduceAdd, WP.need_of sz2, WP.need_true]
    rfl
  rw [e]
  refine (Dr.bind (k := 1) (dr_drawN (c := 25) (by decide) (by decide)) fun d ⟨a, ed, ha⟩ => ?_).mono (by decide) fun _ z => z
  subst ed
  rw [subD_i, WP.pure_bind]
  refine Dr.bind (k := 0) (dr_drawN (c := 12) (by decide) (by decide)) fun d ⟨b, ed, hb⟩ => ?_
  subst ed
  have ad : addD (.int 1) (nD b) = pure (nD (1 + b)) := add_n 1 b
  rw [ad, WP.pure_bind]
  exact .pure ⟨_, rfl, _, 1 + b, ⟨⟨by omega, by omega⟩, by omega, by omega⟩, rfl⟩
theorem if_dr {t : EW} {ρ : Env'} {k : Nat} (h : Dr k (fun d => d = .bl true) (t ρ)) : Nx k (fun ρ' => ρ' = ρ) (yIf t ρ) := by
  unfold yIf sIf bNot bV
  simp only [WP.bind_assoc]
  refine Dr.bind (k := 0) h fun d hd => ?_
  subst hd
  exact .pure ⟨_, rfl, rfl⟩
section
variable {s0 s1 s4 s5 s9 s10 : Sl} {ws vs : List Int} {c : Int} {n : Nat} (c3 : ws.length ≤ 3) (h5 : ∀ w ∈ ws, -5 ≤ w ∧ w ≤ 5) (v3 : 1 ≤ vs.length ∧ vs.length ≤ 3) (v5 : ∀ w ∈ vs, -5 ≤ w ∧ w ≤ 5) (hc : -8 ≤ c ∧ c ≤ 16) (n0 : 0 < n) (n12 : n ≤ 12)
abbrev eZ (s0 s1 : Sl) (ws vs : List Int) (s4 s5 s9 s10 : Sl) (c : Int) (n : Nat) : Env' := eW s0 s1 (.val (.tup (ws.map D.int))) (.val (.tup (vs.map D.int))) s4 s5 s9 s10 c n
include c3 h5 v3 v5 hc
theorem ne_vs : vs ≠ [] := fun e => by rw [e] at v3; simp at v3
theorem yE_dr : Dr 100 (fun d => d = .bl true) (yE (eZ s0 s1 ws vs s4 s5 s9 s10 c n)) := by
  obtain ⟨A, told, run⟩ := equal_eq (dy := .tup (ws.map D.int)) (dv := .tup (vs.map D.int)) (.inl rfl) (.inl rfl) c3 h5 v5 (ne_vs c3 h5 v3 v5 hc) hc
  have lv : A.bg.length = vs.length := by have := congrArg List.length told.bg; simpa using this
  have e : yE (eZ s0 s1 ws vs s4 s5 s9 s10 c n) = M_law_fits (mixM (own_law Φ0) (eZ s0 s1 ws vs s4 s5 s9 s10 c n) Φ0) [.pen, oD A, .tup (ws.map D.int), .tup (vs.map D.int), .fn 10] := by
    simp only [yE, eCallH, eCall, aC, aN, eC, eVar, List.getElem?_cons_zero, List.getElem?_cons_succ, WP.pure_bind, List.length_cons, List.length_nil, WP.need_true, run]
  rw [e]
  exact fits_dr (.inl rfl) (.inl rfl) c3 h5 told lv (by omega) (due := fun z => if true then decide (z = c) else decide (z ≤ c)) (fun z => due10 z) (means_S (ex := true) told.bg)
theorem yB_dr : Dr 100 (fun d => d = .bl true) (yB (eZ s0 s1 ws vs s4 s5 s9 s10 c n)) := by
  obtain ⟨A, told, run⟩ := below_wt_eq (dy := .lst (ws.map D.int)) (dv := .tup (vs.map D.int)) (.inr rfl) (.inl rfl) c3 h5 v5 (ne_vs c3 h5 v3 v5 hc) hc
  have lv : A.bg.length = vs.length := by have := congrArg List.length told.bg; simpa using this
  have ls : listD [.tup (ws.map D.int)] = pure (ws.map D.int) := rfl
  have e : yB (eZ s0 s1 ws vs s4 s5 s9 s10 c n) = M_law_fits (mixM (own_law Φ0) (eZ s0 s1 ws vs s4 s5 s9 s10 c n) Φ0) [.pen, oD A, .tup (ws.map D.int), .tup (vs.map D.int), .fn 11] := by
    simp only [yB, eCallH, eCall, eOfL, lBI, aC, aN, eC, eVar, List.getElem?_cons_zero, List.getElem?_cons_succ, WP.pure_bind, ls, List.length_cons, List.length_nil, WP.need_true, run]
  rw [e]
  exact fits_dr (.inl rfl) (.inl rfl) c3 h5 told lv (by omega) (due := fun z => if false then decide (z = c) else decide (z ≤ c)) (fun z => due11 z) (means_S (ex := false) told.bg)
include n0 n12
theorem yL_dr : Dr 100 (fun d => d = .bl true) (yL (eZ s0 s1 ws vs s4 s5 s9 s10 c n)) := by
  obtain ⟨A, told, run⟩ := like_eq (dy := .tup (ws.map D.int)) (dv := .lst (vs.map D.int)) (.inl rfl) (.inr rfl) c3 h5 v5 (ne_vs c3 h5 v3 v5 hc) hc n12 n0
  have lv : A.bg.length = vs.length := by have := congrArg List.length told.bg; simpa using this
  have ls : listD [.tup (vs.map D.int)] = pure (vs.map D.int) := rfl
  have e : yL (eZ s0 s1 ws vs s4 s5 s9 s10 c n) = M_law_fits (mixM (own_law Φ0) (eZ s0 s1 ws vs s4 s5 s9 s10 c n) Φ0) [.pen, oD A, .tup (ws.map D.int), .tup (vs.map D.int), .fn 12] := by
    simp only [yL, eCallH, eCall, eOfL, lBI, aC, aN, eC, eVar, List.getElem?_cons_zero, List.getElem?_cons_succ, WP.pure_bind, ls, List.length_cons, List.length_nil, WP.need_true, run]
  rw [e]
  exact fits_dr (.inl rfl) (.inl rfl) c3 h5 told lv (by omega) (due := fun z => decide ((z - c) % (n : Int) = 0)) (fun z => due12 n0 z) (means_L n0 told.bg)
end
/-- one lap -/
theorem lap_dr {s1 s2 s3 s4 s5 s6 s7 s9 s10 : Sl} : Nx 400 (fun ρ => ∃ s2 s3 s6 s7, ρ = eL s1 s2 s3 s4 s5 s6 s7 s9 s10) (yLap (eL s1 s2 s3 s4 s5 s6 s7 s9 s10)) := by
  unfold yLap
  refine (dr_sq (k := 390) yY_dr fun ρ ⟨ws, ⟨c3, h5⟩, e⟩ => ?_).mono (by decide) fun _ z => z
  subst e
  refine (dr_sq (k := 380) yV_dr fun ρ ⟨vs, ⟨v3, v5⟩, e⟩ => ?_).mono (by decide) fun _ z => z
  subst e
  refine (dr_sq (k := 370) yCN_dr fun ρ ⟨c, n, ⟨hc, n0, n12⟩, e⟩ => ?_).mono (by decide) fun _ z => z
  subst e
  refine (dr_sq (k := 200) (if_dr (yE_dr c3 h5 v3 v5 hc)) fun ρ e => ?_).mono (by decide) fun _ z => z
  subst e
  refine (dr_sq (k := 100) (if_dr (yB_dr c3 h5 v3 v5 hc)) fun ρ e => ?_).mono (by decide) fun _ z => z
  subst e
  refine (if_dr (yL_dr c3 h5 v3 v5 hc n0 n12)).imp ?_
  rintro f ⟨ρ, rfl, rfl⟩
  exact ⟨_, rfl, _, _, _, _, rfl⟩
/-! ### the end -/
theorem odd_dr {s1 s2 s3 s4 s5 s6 s7 s9 s10 : Sl} : Nx 1 (fun ρ => ∃ d, d ∈ oddD ∧ ρ = eL s1 s2 s3 (.val d) s5 s6 s7 s9 s10) (yOdd (eL s1 s2 s3 s4 s5 s6 s7 s9 s10)) := by
  refine nx_set (P := fun d => d ∈ oddD) ?_ fun d hd => ⟨d, hd, rfl⟩
  have ng : negD (.int 1) = pure (.int (-1)) := rfl
  have e : (eCall 2 m_law_pick (aC (eVar 8) (aC (eOfL (lLst (aC (eC (.int 0)) (aC (e1 negD (eC (.int 1))) (aC (eC (.bl true)) (aC (eC .non) (aC (eC (.str "2")) (aC (eTup (aC (eC (.int 2)) aN)) (aC (eOfL (lLst (aC (eC (.int 1)) aN))) aN))))))))) aN))) (eL s1 s2 s3 s4 s5 s6 s7 s9 s10) = m_law_pick [.pen, .lst oddD] := by
    simp only [eCall, eOfL, lLst, eTup, NW.e1, aC, aN, eVar, eC, List.getElem?_cons_zero, List.getElem?_cons_succ, WP.pure_bind, ng, List.length_cons, List.length_nil, Nat.zero_add, Nat.reduceAdd, WP.need_true, need_sz, Nat.reduceLeDiff]
    rfl
  rw [e]
  have pk := dr_pick (enc := fun d : D => d) (l := oddD) (d := .lst (oddD.map fun d => d)) (.inl rfl) (by simp [oddD]) (by simp [oddD])
  rw [List.map_id'] at pk
  exact pk.imp fun d ⟨x, hx, ex⟩ => by rw [ex]; exact hx
theorem try_run {d : D} (hd : d ∈ oddD) {s1 s2 s3 s5 s6 s7 s9 s10 : Sl} : yTry (eL s1 s2 s3 (.val d) s5 s6 s7 s9 s10) = pure (.rt (.bl true)) := by
  have lr := like_raise d hd
  obtain ⟨r1, r2⟩ := rep_odd d hd
  have fw : Fw "BadNumber" "BadNumber" = some true := by decide +kernel
  have ne : (("number" : Str) == "what") = false := by decide +kernel
  have z : [D.str "n", d].length ≤ sizeLine := sz2
  have cl : ∀ er, yCl er ⟨"BadNumber", ["what", "number"], [.str "n", d]⟩ (eL s1 s2 s3 (.val d) (.val (.raw er)) s6 s7 s9 s10) = pure (.rt (.bl true)) := fun er => by
    have a : (eTup (aC (eXf 5 er ⟨"BadNumber", ["what", "number"], [.str "n", d]⟩ ["BadNumber"] "what") (aC (eXf 5 er ⟨"BadNumber", ["what", "number"], [.str "n", d]⟩ ["BadNumber"] "number") aN))) (eL s1 s2 s3 (.val d) (.val (.raw er)) s6 s7 s9 s10) = pure (nD2 d) := by
      simp only [eTup, aC, aN, eXf, List.getElem?_cons_zero, List.getElem?_cons_succ, List.mem_singleton, and_self, WP.need_true, List.zip_cons_cons, List.zip_nil_right, List.lookup_cons, BEq.rfl, ne, WP.pure_bind, WP.need_of z]
    have b : (eTup (aC (eC (.str "n")) (aC (eVar 4) aN))) (eL s1 s2 s3 (.val d) (.val (.raw er)) s6 s7 s9 s10) = pure (nD2 d) := by
      simp only [eTup, aC, aN, eC, eVar, List.getElem?_cons_zero, List.getElem?_cons_succ, WP.pure_bind, WP.need_of z]
    simp only [yCl, sRet, NW.e2, a, b, WP.pure_bind, r1, r2]
  have hc : (eCall 4 m_weights_like (aC (eTup (aC (eC (.int 1)) aN)) (aC (eTup (aC (eC (.int 0)) aN)) (aC (eVar 4) (aC (eC (.int 0)) aN))))) (eL s1 s2 s3 (.val d) s5 s6 s7 s9 s10) = WP.raise ⟨"BadNumber", ["what", "number"], [.str "n", d]⟩ := by
    simp only [eCall, eTup, aC, aN, eC, eVar, List.getElem?_cons_zero, List.getElem?_cons_succ, WP.pure_bind, List.length_cons, List.length_nil, Nat.zero_add, Nat.reduceAdd, WP.need_of sz1, WP.need_true, lr]
  simp only [yTry, sTryE, hc, WP.raise_bind, tryc_raise, hsel, fw, List.set_cons_succ, List.set_cons_zero, cl, WP.norse_pure, WP.pure_bind, any_free, goneF]
theorem dr_law : Dr 10000 (fun f => f = .rt (.bl true)) (t_law Φ0 start0) := by
  rw [show start0 = eL .no .no .no .no .no .no .no .no .no from rfl, t_law_split]
  have w : (iOf rng1 (aC (eC (.int 3)) aN)) (eL .no .no .no .no .no .no .no .no .no) = pure ((List.range 3).map nD) := by
    simp only [iOf, aC, aN, eC, WP.pure_bind]
    exact rng_n (n := 3) (by decide)
  have loop := nx_idx (c := 400) (t := .nm 1) (tb := yLap) nD (fun _ ρ => ∃ s1 s2 s3 s4 s5 s6 s7 s9 s10, ρ = eL s1 s2 s3 s4 s5 s6 s7 s9 s10) (List.range 3) (ρ := eL .no .no .no .no .no .no .no .no .no) ⟨_, _, _, _, _, _, _, _, _, rfl⟩ (by
    rintro i x ρ hx ⟨s1, s2, s3, s4, s5, s6, s7, s9, s10, rfl⟩
    refine ⟨_, rfl, (lap_dr (s1 := .val (nD x))).imp ?_⟩
    rintro f ⟨ρ, rfl, a, b, c, d, rfl⟩
    exact ⟨_, rfl, _, _, _, _, _, _, _, _, _, rfl⟩)
  have loop' : Nx 1200 (fun ρ => ∃ s1 s2 s3 s4 s5 s6 s7 s9 s10, ρ = eL s1 s2 s3 s4 s5 s6 s7 s9 s10) (sFor (iOf rng1 (aC (eC (.int 3)) aN)) (.nm 1) yLap (eL .no .no .no .no .no .no .no .no .no)) := by
    rw [sFor_of w]
    exact loop.mono (by simp) fun _ z => z
  refine (dr_sq (k := 10) loop' fun ρ hE => ?_).mono (by decide) fun _ z => z
  obtain ⟨s1, s2, s3, s4, s5, s6, s7, s9, s10, rfl⟩ := hE
  refine (dr_sq (k := 0) odd_dr fun ρ hE => ?_).mono (by decide) fun _ z => z
  obtain ⟨d, hd, rfl⟩ := hE
  have t := try_run hd (s1 := s1) (s2 := s2) (s3 := s3) (s5 := s5) (s6 := s6) (s7 := s7) (s9 := s9) (s10 := s10)
  simp only [sSeq, t, WP.pure_bind]
  exact .pure rfl
theorem law_true : LawTrue := dr_law 1000000000000 _ _ (by decide) fun a b' pa _ => pa
end K24
end
section
set_option Elab.async false
set_option maxRecDepth 100000
set_option pp.maxSteps 100
set_option pp.deepTerms false
open PySem PySem.W PyProof.Rows L2 L2.NW K24
set_option maxRecDepth 100000 in
set_option maxHeartbeats 0 in
theorem PySem.Challenge.cw_numberwall_k24_whole_lots_of_weights_holds : PySem.Challenge.rw_numberwall_k24_whole_lots_of_weights.Holds := by
  w_on; o_law; k_head; (case hw => w_witness2)
  k_fill
  refine walk_ofG (l := PySem.Challenge.rw_numberwall_k24_whole_lots_of_weights) (n := 63) (k := K24.lvL + 1) (x := "script") (CX := fun w => L2.CX PySem.Challenge.rw_numberwall_k24_whole_lots_of_weights.prog w) rfl (by decide) rfl ⟨rfl, by decide, by decide⟩ (fun w h Y => by first | exact PySem.W.km_in_of Y | exact PySem.W.kIn_of Y) ?F (fun _ _ _ _ _ z => cx_none z)
  case F =>
    intro w mg fa h Y KX G hmg own
    have ns_super : mg "super" = none := by
      refine' mk_none KX G ?a
      (case a => k_is)
    have d_law_pick : DefOk (L2.KOf KX) mg "_law_pick" (top 32) ["pen", "row"] := by
      delta L2.KOf
      refine' mk_def KX G ?a ?l ?c ?k ?b
      (case a => k_is); (case l => k_is); (case c => k_is); (case k => k_is)
      (case b => exact fun _ _ _ _ _ _ us hl => match us, hl with | [_, _], _ => rfl)
    have d_is_integer : DefOk (L2.KOf KX) mg "is_integer" (top 7) ["value"] := by
      delta L2.KOf
      refine' mk_def KX G ?a ?l ?c ?k ?b
      (case a => k_is); (case l => k_is); (case c => k_is); (case k => k_is)
      (case b => exact fun _ _ _ _ _ _ us hl => match us, hl with | [_], _ => rfl)
    have d_is_count : DefOk (L2.KOf KX) mg "is_count" (top 8) ["value"] := by
      delta L2.KOf
      refine' mk_def KX G ?a ?l ?c ?k ?b
      (case a => k_is); (case l => k_is); (case c => k_is); (case k => k_is)
      (case b => exact fun _ _ _ _ _ _ us hl => match us, hl with | [_], _ => rfl)
    have d_need_count : DefOk (L2.KOf KX) mg "need_count" (top 11) ["what", "value"] := by
      delta L2.KOf
      refine' mk_def KX G ?a ?l ?c ?k ?b
      (case a => k_is); (case l => k_is); (case c => k_is); (case k => k_is)
      (case b => exact fun _ _ _ _ _ _ us hl => match us, hl with | [_, _], _ => rfl)
    have d_as_told : DefOk (L2.KOf KX) mg "as_told" (top 5) ["value"] := by
      delta L2.KOf
      refine' mk_def KX G ?a ?l ?c ?k ?b
      (case a => k_is); (case l => k_is); (case c => k_is); (case k => k_is)
      (case b => exact fun _ _ _ _ _ _ us hl => match us, hl with | [_], _ => rfl)
    have d_is_row : DefOk (L2.KOf KX) mg "is_row" (top 10) ["value"] := by
      delta L2.KOf
      refine' mk_def KX G ?a ?l ?c ?k ?b
      (case a => k_is); (case l => k_is); (case c => k_is); (case k => k_is)
      (case b => exact fun _ _ _ _ _ _ us hl => match us, hl with | [_], _ => rfl)
    have d_is_below : DefOk (L2.KOf KX) mg "is_below" (top 9) ["value", "bound"] := by
      delta L2.KOf
      refine' mk_def KX G ?a ?l ?c ?k ?b
      (case a => k_is); (case l => k_is); (case c => k_is); (case k => k_is)
      (case b => exact fun _ _ _ _ _ _ us hl => match us, hl with | [_, _], _ => rfl)
    have d_are_states : DefOk (L2.KOf KX) mg "are_states" (top 13) ["value", "many", "states"] := by
      delta L2.KOf
      refine' mk_def KX G ?a ?l ?c ?k ?b
      (case a => k_is); (case l => k_is); (case c => k_is); (case k => k_is)
      (case b => exact fun _ _ _ _ _ _ us hl => match us, hl with | [_, _, _], _ => rfl)
    have c_Lot : ClsOk (L2.KOf KX) mg "Lot" "Lot.__init__" (inClass (top 14) 0) ["self", "counters", "moves", "good", "begins"] := by
      delta L2.KOf
      refine' mk_cls KX G ?a ?m ?i ?n ?kc ?l ?c ?k ?b
      (case a => k_is); (case m => k_is); (case i => k_is); (case n => k_is); (case kc => k_is); (case l => k_is); (case c => k_is); (case k => k_is)
      (case b => exact fun _ _ _ _ _ _ us hl => match us, hl with | [_, _, _, _, _], _ => rfl)
    have d_explored_lots : DefOkY (L2.KOf KX) mg "explored_lots" "explored" (top 15) ["counters", "begins", "go", "is_good"] := by
      delta L2.KOf
      refine' mk_defY KX G ?a ?l ?c ?k ?b
      (case a => k_is); (case l => k_is); (case c => k_is); (case k => k_is)
      (case b => exact fun _ _ _ _ _ _ us hl => match us, hl with | [_, _, _, _], _ => rfl)
    have d_parted : DefOk (L2.KOf KX) mg "parted" (top 17) ["lot"] := by
      delta L2.KOf
      refine' mk_def KX G ?a ?l ?c ?k ?b
      (case a => k_is); (case l => k_is); (case c => k_is); (case k => k_is)
      (case b => exact fun _ _ _ _ _ _ us hl => match us, hl with | [_], _ => rfl)
    have d_column_weight : DefOk (L2.KOf KX) mg "column_weight" (top 20) ["y", "column"] := by
      delta L2.KOf
      refine' mk_def KX G ?a ?l ?c ?k ?b
      (case a => k_is); (case l => k_is); (case c => k_is); (case k => k_is)
      (case b => exact fun _ _ _ _ _ _ us hl => match us, hl with | [_, _], _ => rfl)
    have d_explored_weights : DefOkY (L2.KOf KX) mg "explored_weights" "explored" (top 21) ["y", "begins", "go", "is_good"] := by
      delta L2.KOf
      refine' mk_defY KX G ?a ?l ?c ?k ?b
      (case a => k_is); (case l => k_is); (case c => k_is); (case k => k_is)
      (case b => exact fun _ _ _ _ _ _ us hl => match us, hl with | [_, _, _, _], _ => rfl)
    have d_rest : DefOk (L2.KOf KX) mg "rest" (top 26) ["value", "n"] := by
      delta L2.KOf
      refine' mk_def KX G ?a ?l ?c ?k ?b
      (case a => k_is); (case l => k_is); (case c => k_is); (case k => k_is)
      (case b => exact fun _ _ _ _ _ _ us hl => match us, hl with | [_, _], _ => rfl)
    have d_halved_like : DefOk (L2.KOf KX) mg "halved_like" (top 27) ["value", "weight"] := by
      delta L2.KOf
      refine' mk_def KX G ?a ?l ?c ?k ?b
      (case a => k_is); (case l => k_is); (case c => k_is); (case k => k_is)
      (case b => exact fun _ _ _ _ _ _ us hl => match us, hl with | [_, _], _ => rfl)
    have d_law_plain_lot : DefOk (L2.KOf KX) mg "_law_plain_lot" (top 36) ["lot"] := by
      delta L2.KOf
      refine' mk_def KX G ?a ?l ?c ?k ?b
      (case a => k_is); (case l => k_is); (case c => k_is); (case k => k_is)
      (case b => exact fun _ _ _ _ _ _ us hl => match us, hl with | [_], _ => rfl)
    have d_law_rows_below : DefOk (L2.KOf KX) mg "_law_rows_below" (top 37) ["counters", "most"] := by
      delta L2.KOf
      refine' mk_def KX G ?a ?l ?c ?k ?b
      (case a => k_is); (case l => k_is); (case c => k_is); (case k => k_is)
      (case b => exact fun _ _ _ _ _ _ us hl => match us, hl with | [_, _], _ => rfl)
    have d_law_is_least : DefOk (L2.KOf KX) mg "_law_is_least" (top 39) ["lot"] := by
      delta L2.KOf
      refine' mk_def KX G ?a ?l ?c ?k ?b
      (case a => k_is); (case l => k_is); (case c => k_is); (case k => k_is)
      (case b => exact fun _ _ _ _ _ _ us hl => match us, hl with | [_], _ => rfl)
    have d_law_places : DefOk (L2.KOf KX) mg "_law_places" (top 34) ["row"] := by
      delta L2.KOf
      refine' mk_def KX G ?a ?l ?c ?k ?b
      (case a => k_is); (case l => k_is); (case c => k_is); (case k => k_is)
      (case b => exact fun _ _ _ _ _ _ us hl => match us, hl with | [_], _ => rfl)
    have d_law_column : DefOk (L2.KOf KX) mg "_law_column" (top 33) ["row", "place"] := by
      delta L2.KOf
      refine' mk_def KX G ?a ?l ?c ?k ?b
      (case a => k_is); (case l => k_is); (case c => k_is); (case k => k_is)
      (case b => exact fun _ _ _ _ _ _ us hl => match us, hl with | [_, _], _ => rfl)
    have d_law_is_in : DefOk (L2.KOf KX) mg "_law_is_in" (top 35) ["lot", "configuration"] := by
      delta L2.KOf
      refine' mk_def KX G ?a ?l ?c ?k ?b
      (case a => k_is); (case l => k_is); (case c => k_is); (case k => k_is)
      (case b => exact fun _ _ _ _ _ _ us hl => match us, hl with | [_, _], _ => rfl)
    have d_law_weight : DefOk (L2.KOf KX) mg "_law_weight" (top 38) ["y", "v", "configuration"] := by
      delta L2.KOf
      refine' mk_def KX G ?a ?l ?c ?k ?b
      (case a => k_is); (case l => k_is); (case c => k_is); (case k => k_is)
      (case b => exact fun _ _ _ _ _ _ us hl => match us, hl with | [_, _, _], _ => rfl)
    have d_law_fits : DefOk (L2.KOf KX) mg "_law_fits" (top 40) ["pen", "told", "y", "v", "is_due"] := by
      delta L2.KOf
      refine' mk_def KX G ?a ?l ?c ?k ?b
      (case a => k_is); (case l => k_is); (case c => k_is); (case k => k_is)
      (case b => exact fun _ _ _ _ _ _ us hl => match us, hl with | [_, _, _, _, _], _ => rfl)
    have d_halved : DefOk (L2.KOf KX) mg "halved" (top 23) ["value", "weight"] := by
      delta L2.KOf
      refine' mk_def KX G ?a ?l ?c ?k ?b
      (case a => k_is); (case l => k_is); (case c => k_is); (case k => k_is)
      (case b => exact fun _ _ _ _ _ _ us hl => match us, hl with | [_, _], _ => rfl)
    have o_Lot : InsOk (L2.KOf KX) mg "Lot" := by
      delta L2.KOf
      refine' mk_ins KX G ?a ?pg ?hd ?po ?sa ?ha ?hn ?htk ?hm ?me
      (case a => k_is); (case pg => k_is); (case hd => k_is); (case po => k_is); (case sa => k_is); (case ha => k_is); (case hn => k_is); (case htk => k_is); (case hm => k_is); (case me => kernel_rfl)
    have q_Lot : MetOk (L2.KOf KX) mg "Lot" "__eq__" "Lot.__eq__" (inClass (top 14) 1) ["self", "other"] := by
      delta L2.KOf
      refine' mk_met KX G ?a ?i ?n ?l ?c ?k ?b
      (case a => k_is); (case i => k_is); (case n => k_is); (case l => k_is); (case c => k_is); (case k => k_is)
      (case b => exact fun _ _ _ _ _ _ us hl => match us, hl with | [_, _], _ => rfl)
    have d_law_draw : DefOk (L2.KOf KX) mg "_law_draw" (top 31) ["pen", "many"] := by
      delta L2.KOf
      refine' mk_def KX G ?a ?l ?c ?k ?b
      (case a => k_is); (case l => k_is); (case c => k_is); (case k => k_is)
      (case b => exact fun _ _ _ _ _ _ us hl => match us, hl with | [_, _], _ => rfl)
    have e_BadLot : ErrOk PySem.Challenge.rw_numberwall_k24_whole_lots_of_weights.prog (L2.KOf KX) mg "BadLot" ["lot"] := by
      delta L2.KOf
      refine' mk_err (st := inClass (top 3) 0) KX G ⟨?a, ?ga, ?gg, ?exC, ?hdC, ?noF⟩ ns_super ?xL ?bmO ?sa ?i ?t ?kC ?tC ?su ?sv ?sl ?tp ?l ?c ?lc ?lw ?lf ?ls ?ll (by decide) (by decide) (by decide) ?ini rfl rfl rfl (by decide +kernel) (by decide +kernel) (by decide +kernel) (by decide +kernel) rfl rfl ?b
      (case a => k_is); (case ga => k_is); (case gg => k_is); (case exC => k_is); (case hdC => k_is)
      (case noF => exact List.forall_mem_cons.mpr ⟨by k_is, List.forall_mem_nil _⟩)
      (case xL => k_is); (case bmO => decide +kernel); (case sa => k_is); (case i => k_is); (case t => k_is); (case kC => k_is); (case tC => k_is); (case su => kernel_rfl); (case sv => k_is); (case sl => k_is); (case tp => k_is); (case l => k_is); (case c => k_is); (case lc => k_is)
      (case lw => rfl); (case lf => decide +kernel); (case ls => decide +kernel); (case ll => k_is)
      (case ini => exact .mk (.cons .nil) (.cons .nil) (fun _ => rfl))
      (case b => exact fun s us hl => match us, hl with | [_, _], _ => .of_eq rfl)
    have e_BadNumber : ErrOk PySem.Challenge.rw_numberwall_k24_whole_lots_of_weights.prog (L2.KOf KX) mg "BadNumber" ["what", "number"] := by
      delta L2.KOf
      refine' mk_err (st := inClass (top 2) 0) KX G ⟨?a, ?ga, ?gg, ?exC, ?hdC, ?noF⟩ ns_super ?xL ?bmO ?sa ?i ?t ?kC ?tC ?su ?sv ?sl ?tp ?l ?c ?lc ?lw ?lf ?ls ?ll (by decide) (by decide) (by decide) ?ini rfl rfl rfl (by decide +kernel) (by decide +kernel) (by decide +kernel) (by decide +kernel) rfl rfl ?b
      (case a => k_is); (case ga => k_is); (case gg => k_is); (case exC => k_is); (case hdC => k_is)
      (case noF => exact List.forall_mem_cons.mpr ⟨by k_is, List.forall_mem_cons.mpr ⟨by k_is, List.forall_mem_nil _⟩⟩)
      (case xL => k_is); (case bmO => decide +kernel); (case sa => k_is); (case i => k_is); (case t => k_is); (case kC => k_is); (case tC => k_is); (case su => kernel_rfl); (case sv => k_is); (case sl => k_is); (case tp => k_is); (case l => k_is); (case c => k_is); (case lc => k_is)
      (case lw => rfl); (case lf => decide +kernel); (case ls => decide +kernel); (case ll => k_is)
      (case ini => exact .mk (.cons (.cons .nil)) (.cons (.cons .nil)) (fun _ => rfl))
      (case b => exact fun s us hl => match us, hl with | [_, _, _], _ => .of_eq rfl)
    have k_BadNumber : CsOk (L2.KOf KX) mg Fw ⟨"BadNumber", "", ["what", "number"]⟩ := by
      delta L2.KOf
      refine' mk_cs KX G ?a ?ga ?gg ?exC ?hdC ?noF (by decide)
      (case a => k_is); (case ga => k_is); (case gg => k_is); (case exC => k_is); (case hdC => k_is)
      (case noF => exact List.forall_mem_cons.mpr ⟨by k_is, List.forall_mem_cons.mpr ⟨by k_is, List.forall_mem_nil _⟩⟩)
    have fo : FOk (L2.KOf KX) mg Fw := by
      delta L2.KOf
      refine' fwx KX G ?a0 ?a1 ?t
      (case a0 => k_is); (case a1 => k_is)
      (case t => kernel_rfl)
    have b_set : mg "set" = none := by
      refine' mk_none KX G ?a
      (case a => k_is)
    have b_repr : mg "repr" = none := by
      refine' mk_none KX G ?a
      (case a => k_is)
    have b_sorted : mg "sorted" = none := by
      refine' mk_none KX G ?a
      (case a => k_is)
    have b_len : mg "len" = none := by
      refine' mk_none KX G ?a
      (case a => k_is)
    have b_tuple : mg "tuple" = none := by
      refine' mk_none KX G ?a
      (case a => k_is)
    have b_list : mg "list" = none := by
      refine' mk_none KX G ?a
      (case a => k_is)
    have b_int : mg "int" = none := by
      refine' mk_none KX G ?a
      (case a => k_is)
    have b_bool : mg "bool" = none := by
      refine' mk_none KX G ?a
      (case a => k_is)
    have b_all : mg "all" = none := by
      refine' mk_none KX G ?a
      (case a => k_is)
    have b_any : mg "any" = none := by
      refine' mk_none KX G ?a
      (case a => k_is)
    have b_sum : mg "sum" = none := by
      refine' mk_none KX G ?a
      (case a => k_is)
    have b_range : mg "range" = none := by
      refine' mk_none KX G ?a
      (case a => k_is)
    have b_enumerate : mg "enumerate" = none := by
      refine' mk_none KX G ?a
      (case a => k_is)
    have b_zip : mg "zip" = none := by
      refine' mk_none KX G ?a
      (case a => k_is)
    have b_isinstance : mg "isinstance" = none := by
      refine' mk_none KX G ?a
      (case a => k_is)
    have f_begins : FldF (L2.KOf KX) mg csF "begins" := by
      delta L2.KOf
      refine' mk_fld1 KX G ?a ?pg ?hd ?po ?sa ?n
      (case a => k_is); (case pg => k_is); (case hd => k_is); (case po => k_is); (case sa => k_is); (case n => k_is)
    have f_counters : FldF (L2.KOf KX) mg csF "counters" := by
      delta L2.KOf
      refine' mk_fld1 KX G ?a ?pg ?hd ?po ?sa ?n
      (case a => k_is); (case pg => k_is); (case hd => k_is); (case po => k_is); (case sa => k_is); (case n => k_is)
    have f_good : FldF (L2.KOf KX) mg csF "good" := by
      delta L2.KOf
      refine' mk_fld1 KX G ?a ?pg ?hd ?po ?sa ?n
      (case a => k_is); (case pg => k_is); (case hd => k_is); (case po => k_is); (case sa => k_is); (case n => k_is)
    have f_moves : FldF (L2.KOf KX) mg csF "moves" := by
      delta L2.KOf
      refine' mk_fld1 KX G ?a ?pg ?hd ?po ?sa ?n
      (case a => k_is); (case pg => k_is); (case hd => k_is); (case po => k_is); (case sa => k_is); (case n => k_is)
    have dP : DefOk (L2.KOf KX) mg "_law_pen" st_law_pen ["script"] := by
      delta L2.KOf
      refine' mk_def KX G ?a ?l ?c ?k ?b
      (case a => k_is); (case l => k_is); (case c => k_is); (case k => k_is)
      (case b => exact fun _ _ _ _ _ _ us hl => match us, hl with | [_], _ => rfl)
    refine' law_at law_true KX G hmg (fun base => ⟨d_law_pick, d_is_integer, d_is_count, d_need_count, d_as_told, d_is_row, d_is_below, d_are_states, c_Lot, d_explored_lots, d_parted, d_column_weight, d_explored_weights, d_rest, d_halved_like, d_law_plain_lot, d_law_rows_below, d_law_is_least, d_law_places, d_law_column, d_law_is_in, d_law_weight, d_law_fits, d_halved, o_Lot, q_Lot, d_law_draw, e_BadLot, e_BadNumber, k_BadNumber, fo, b_set, b_repr, b_sorted, b_len, b_tuple, b_list, b_int, b_bool, b_all, b_any, b_sum, b_range, b_enumerate, b_zip, b_isinstance, f_begins, f_counters, f_good, f_moves⟩) dP (mk_defC KX G ?a0 ?l0 ?cc0 ?k0 ?lk0 ?lp0 ?np0 ?hd0 ?b0 own ?hq0) (mk_defC KX G ?a1 ?l1 ?cc1 ?k1 ?lk1 ?lp1 ?np1 ?hd1 ?b1 own ?hq1) (mk_defC KX G ?a2 ?l2 ?cc2 ?k2 ?lk2 ?lp2 ?np2 ?hd2 ?b2 own ?hq2) (mk_defC KX G ?a3 ?l3 ?cc3 ?k3 ?lk3 ?lp3 ?np3 ?hd3 ?b3 own ?hq3) (mk_defC KX G ?a4 ?l4 ?cc4 ?k4 ?lk4 ?lp4 ?np4 ?hd4 ?b4 own ?hq4) ?dd
    (case a0 => k_is); (case l0 => k_is); (case cc0 => k_is); (case k0 => k_is); (case lk0 => k_is)
    (case lp0 => rfl)
    (case np0 => kernel_rfl); (case hd0 => kernel_rfl)
    (case b0 => exact fun _ _ _ _ _ _ us hl => match us, hl with | [_], _ => rfl)
    (case hq0 => first | rfl | decide +kernel)
    (case a1 => k_is); (case l1 => k_is); (case cc1 => k_is); (case k1 => k_is); (case lk1 => k_is)
    (case lp1 => rfl)
    (case np1 => kernel_rfl); (case hd1 => kernel_rfl)
    (case b1 => exact fun _ _ _ _ _ _ us hl => match us, hl with | [_, _, _, _], _ => rfl)
    (case hq1 => first | rfl | decide +kernel)
    (case a2 => k_is); (case l2 => k_is); (case cc2 => k_is); (case k2 => k_is); (case lk2 => k_is)
    (case lp2 => rfl)
    (case np2 => kernel_rfl); (case hd2 => kernel_rfl)
    (case b2 => exact fun _ _ _ _ _ _ us hl => match us, hl with | [_, _, _], _ => rfl)
    (case hq2 => first | rfl | decide +kernel)
    (case a3 => k_is); (case l3 => k_is); (case cc3 => k_is); (case k3 => k_is); (case lk3 => k_is)
    (case lp3 => rfl)
    (case np3 => kernel_rfl); (case hd3 => kernel_rfl)
    (case b3 => exact fun _ _ _ _ _ _ us hl => match us, hl with | [_, _, _], _ => rfl)
    (case hq3 => first | rfl | decide +kernel)
    (case a4 => k_is); (case l4 => k_is); (case cc4 => k_is); (case k4 => k_is); (case lk4 => k_is)
    (case lp4 => rfl)
    (case np4 => kernel_rfl); (case hd4 => kernel_rfl)
    (case b4 => exact fun _ _ _ _ _ _ us hl => match us, hl with | [_], _ => rfl)
    (case hq4 => first | rfl | decide +kernel)
    (case dd => exact ⟨by decide, by decide, by decide, by decide, by decide, by decide, by decide, by decide, by decide, by decide⟩)
    

end
